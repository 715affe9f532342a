import PyProof.Rows.All
import Wide.All
import OpenK.AllK
import Wide.FinOn
import HandS.ForMost
import HandS.Exc
import HandS.TryOnly
import HandS.ExcOwn
import HandS.WordsExc
import HandS.CallSlots
import HandS.Walk
import HandS.Wide
import HandS.Gcd
import HandS.IsInst
import HandS.Defaults
import HandS.Lambda
import HandS.EndTab
import HandS.ExcCtx
import HandS.HotCalls
import HandS.ExcField
import KE.KExcSuper
import KE.KTryMore
import HandS.HeadHook4
import HandS.TupAny
import HandS.Deep
import HandS.RaiseMore
import HandS.Flow
import HandS.Zip
import KE.KStateDown
import HandS.Head0
import HandS.Head1
import HandS.Head2
import HandS.Head3
import HandS.HeadEnd
import HandS.HeadHook1
import HandS.HeadHook2
import HandS.MakeKwOnly
import HandS.Style
import HandS.TupLe
import KE.GoesZip
import KE.GoesMore
import HandS.ExcValue
import HandS.ExcInit
import KE.KDflt
import HandS.Star
import HandS.FStr
import HandS.Property
import HandS.ClsMeth
import HandS.Small
import PyProof.MeetsIn
import HandS.Strs
import HandS.More
import HandS.Conv
import PyProof.ListStr
import HandS.Text
import HandS.StrMore
import PyProof.StrBlock2
import KE.SortData
import HandS.SortInts
import KE.SortKeyed
import HandS.Keys
import HandS.SortKw
import KE.KDictPairs
import KE.KEqDict
import HandS.DictTup
import HandS.ListItems
import HandS.DictComp
import HandS.TupSets
import HandS.SetBool
import KE.KUnpackStar
import KE.KDictZip
import HandS.TupMul
import HandS.Finally
import HandS.OwnEq
import KE.KEqNest
import PyProof.DictFindH
import KE.KExcIs
import PySem.Challenge.RW_missingmiles_k13_worlds_told
set_option Elab.async false
set_option linter.all false
set_option maxRecDepth 100000
set_option autoImplicit false
set_option maxHeartbeats 2000000
namespace DL
open PySem PySem.Spec PyProof.Rows L2
inductive D where
  | non | bl (b:Bool) | int (i:Int) | str (x:Str)
  | lst (ds:List D) | tup (ds:List D)
  | ins (C:Addr) (fs:List (Str × D))
  | dk (kvs:List (Key × D)) | dt (kvs:List (List Key × D))
  | any
  | raw (v:V)
  | kt (ks:List Key)
abbrev Ex (H H':Hp):Prop:=∀ a o,H a=some o->H' a=some o
theorem Ex.refl (H:Hp):Ex H H:=fun _ _ h=>h
theorem Ex.trans {H H1 H2:Hp} (a:Ex H H1) (b:Ex H1 H2):Ex H H2:=fun x o h=>b x o (a x o h)
theorem Ex.new {H:Hp} {p:Addr} {o:HO} (h:H p=none):Ex H (upd H p o):=fun a u e=>by
  rw [upd_ne (ne_of_none e h)];exact e
theorem Ex.up {G H:Hp} {p:Addr} {o:HO} (e:Ex G H):Ex (upd G p o) (upd H p o):=fun a u h=>by
  by_cases q:a=p
  · subst q;rw [upd_same] at h ⊢;exact h
  · rw [upd_ne q] at h ⊢;exact e a u h
theorem Ex.free {G H:Hp} (e:Ex G H) {a:Addr} (h:H a=none):G a=none:=by
  cases q:G a with
  | none=>rfl
  | some o=>rw [e a o q] at h;cases h
theorem aqm {H H':Hp} {a:Addr} {u:HO} (e:Ex H H') (h:Rd H a u):Rd H' a u:=by
  rcases h with h | ⟨o,h⟩
  · exact Or.inl (e a _ h)
  · exact Or.inr ⟨o,e a _ h⟩
theorem ex_l {K:PySem.W.Frag} {H H':Hp} {a:Addr} {xs:List V} (e:Ex H H') (h:SqL K H a xs):SqL K H' a xs:=by
  rcases h with h | h
  · exact Or.inl (aqm e h)
  · exact Or.inr h
theorem ex_t {K:PySem.W.Frag} {H H':Hp} {a:Addr} {xs:List V} (e:Ex H H') (h:SqT K H a xs):SqT K H' a xs:=by
  rcases h with h | h
  · exact Or.inl (aqm e h)
  · exact Or.inr h
mutual
inductive DOk (K:PySem.W.Frag) (G:Hp):V->D->Prop
  | non:DOk K G .non .non
  | bl (b:Bool):DOk K G (.bl b) (.bl b)
  | int (i:Int):DOk K G (.int i) (.int i)
  | str (x:Str):DOk K G (.str x) (.str x)
  | lst {a:Addr} {vs:List V} {ds:List D}:G a=some (.lst vs)->DAll K G vs ds->DOk K G (.ref a) (.lst ds)
  | tup {a:Addr} {vs:List V} {ds:List D}:SqT K G a vs->DAll K G vs ds->DOk K G (.ref a) (.tup ds)
  | ins {a C dx:Addr} {vs:List (Str × V)} {fs:List (Str × D)}:G a=some (.ins C dx vs)->G dx=some (.own a)->FAll K G vs fs->DOk K G (.ref a) (.ins C fs)
  | any (v:V):DOk K G v .any
  | dk {a:Addr} {o:Obj} {vs:List (Key × V)} {fs:List (Key × D)}:G a=some (.frz o (.dK vs))->FAll K G vs fs->DOk K G (.ref a) (.dk fs)
  | dt {a:Addr} {o:Obj} {vs:List (List Key × V)} {fs:List (List Key × D)}:G a=some (.frz o (.dT vs))->FAll K G vs fs->DOk K G (.ref a) (.dt fs)
  | raw (v:V):DOk K G v (.raw v)
  | kt {a:Addr} {ks:List Key}:G a=some (.tup (ks.map kV))->DOk K G (.ref a) (.kt ks)
inductive DAll (K:PySem.W.Frag) (G:Hp):List V->List D->Prop
  | nil:DAll K G [] []
  | cons {v:V} {d:D} {vs:List V} {ds:List D}:DOk K G v d->DAll K G vs ds->DAll K G (v::vs) (d::ds)
inductive FAll (K:PySem.W.Frag) (G:Hp):{κ:Type}->List (κ × V)->List (κ × D)->Prop
  | nil {κ:Type}:FAll K G (κ:=κ) [] []
  | cons {κ:Type} {x:κ} {v:V} {d:D} {vs:List (κ × V)} {ds:List (κ × D)}:DOk K G v d->FAll K G vs ds->FAll K G ((x,v)::vs) ((x,d)::ds)
end
section
variable {K:PySem.W.Frag} {G G':Hp}
mutual
theorem DOk.mono (e:Ex G G'):∀ {v:V} {d:D},DOk K G v d->DOk K G' v d
  | _,_,.non=>.non
  | _,_,.bl b=>.bl b
  | _,_,.int i=>.int i
  | _,_,.str x=>.str x
  | _,_,.lst h a=>.lst (e _ _ h) (DAll.mono e a)
  | _,_,.tup h a=>.tup (ex_t e h) (DAll.mono e a)
  | _,_,.ins h h2 a=>.ins (e _ _ h) (e _ _ h2) (FAll.mono e a)
  | _,_,.any v=>.any v
  | _,_,.dk h a=>.dk (e _ _ h) (FAll.mono e a)
  | _,_,.dt h a=>.dt (e _ _ h) (FAll.mono e a)
  | _,_,.raw v=>.raw v
  | _,_,.kt h=>.kt (e _ _ h)
theorem DAll.mono (e:Ex G G'):∀ {vs:List V} {ds:List D},DAll K G vs ds->DAll K G' vs ds
  | _,_,.nil=>.nil
  | _,_,.cons h t=>.cons (DOk.mono e h) (DAll.mono e t)
theorem FAll.mono (e:Ex G G'):∀ {κ:Type} {vs:List (κ × V)} {ds:List (κ × D)},FAll K G vs ds->FAll K G' vs ds
  | _,_,_,.nil=>.nil
  | _,_,_,.cons h t=>.cons (DOk.mono e h) (FAll.mono e t)
end
theorem DAll.length:∀ {vs:List V} {ds:List D},DAll K G vs ds->vs.length=ds.length
  | _,_,.nil=>rfl
  | _,_,.cons _ t=>congrArg (· + 1) (DAll.length t)
theorem DAll.get:∀ {vs:List V} {ds:List D} {i:Nat} {d:D},DAll K G vs ds->ds[i]?=some d->∃ v,vs[i]?=some v/\DOk K G v d
  | _,_,_,_,.nil,e=>by simp at e
  | _,_,0,_,.cons h _,e=>by simp at e;subst e;exact ⟨_,rfl,h⟩
  | _,_,i + 1,_,.cons _ t,e=>by
    obtain ⟨v,h1,h2⟩:=DAll.get (i:=i) t (by simpa using e)
    exact ⟨v,by simpa using h1,h2⟩
theorem DAll.getV:∀ {vs:List V} {ds:List D} {i:Nat} {v:V},DAll K G vs ds->vs[i]?=some v->∃ d,ds[i]?=some d/\DOk K G v d
  | _,_,_,_,.nil,e=>by simp at e
  | _,_,0,_,.cons h _,e=>by simp at e;subst e;exact ⟨_,rfl,h⟩
  | _,_,i + 1,_,.cons _ t,e=>by
    obtain ⟨v,h1,h2⟩:=DAll.getV (i:=i) t (by simpa using e)
    exact ⟨v,by simpa using h1,h2⟩
theorem DAll.append:∀ {vs ws:List V} {ds es:List D},DAll K G vs ds->DAll K G ws es->DAll K G (vs++ws) (ds++es)
  | _,_,_,_,.nil,s=>s
  | _,_,_,_,.cons h t,s=>.cons h (DAll.append t s)
theorem DAll.take:∀ {vs:List V} {ds:List D} (n:Nat),DAll K G vs ds->DAll K G (vs.take n) (ds.take n)
  | _,_,0,_=>by rw [List.take_zero,List.take_zero];exact .nil
  | _,_,_ + 1,.nil=>.nil
  | _,_,n + 1,.cons h t=>.cons h (DAll.take n t)
theorem DAll.drop:∀ {vs:List V} {ds:List D} (n:Nat),DAll K G vs ds->DAll K G (vs.drop n) (ds.drop n)
  | _,_,0,r=>r
  | _,_,_ + 1,.nil=>.nil
  | _,_,n + 1,.cons _ t=>DAll.drop n t
theorem DAll.set {v:V} {d:D} (r:DOk K G v d):∀ {vs:List V} {ds:List D} (i:Nat),DAll K G vs ds->DAll K G (vs.set i v) (ds.set i d)
  | _,_,_,.nil=>.nil
  | _,_,0,.cons _ t=>.cons r t
  | _,_,i + 1,.cons q t=>.cons q (DAll.set r i t)
theorem FAll.look {κ:Type} [BEq κ]:∀ {vs:List (κ × V)} {fs:List (κ × D)} {f:κ} {d:D},FAll K G vs fs->fs.lookup f=some d->∃ v,vs.lookup f=some v/\DOk K G v d
  | _,_,_,_,.nil,e=>by simp at e
  | _,_,f,d,.cons (x:=x) h t,e=>by
    rw [List.lookup_cons] at e
    rw [List.lookup_cons]
    cases q:f == x with
    | true=>rw [q] at e;cases e;exact ⟨_,rfl,h⟩
    | false=>rw [q] at e;exact FAll.look t e
theorem FAll.lookN {κ:Type} [BEq κ]:∀ {vs:List (κ × V)} {fs:List (κ × D)} {f:κ},FAll K G vs fs->fs.lookup f=none->vs.lookup f=none
  | _,_,_,.nil,_=>rfl
  | _,_,f,.cons (x:=x) h t,e=>by
    rw [List.lookup_cons] at e ⊢
    cases q:f == x with
    | true=>rw [q] at e;cases e
    | false=>rw [q] at e;exact FAll.lookN t e
end
inductive OO where
  | lst (ds:List D)
  | ins (x C:Addr) (fs:List (Str × D))
  | dk (kvs:List (Key × D)) | dt (kvs:List (List Key × D))
structure GR where
  as:List Addr
  R:PySem.W.Frag->Hp->Hp->Prop
  st:∀ K G G' H H',Ex G G'->(∀ a∈as,H' a=H a)->R K G H->R K G' H'
  kd:Addr->Addr
inductive DV where
  | d (x:D) | src | own (o:OO) | bor (o:OO) | see (o:OO)
  | mu (x C:Addr) (fs:List (Str × D))
  | gh (x:Addr) (r:GR)
def OwnOk (K:PySem.W.Frag) (G H:Hp) (a:Addr):OO->Prop
  | .lst ds=>∃ vs,H a=some (.lst vs)/\DAll K G vs ds
  | .ins x C fs=>a=x/\∃ dx vs,H a=some (.ins C dx vs)/\G dx=some (.own a)/\FAll K G vs fs
  | .dk kvs=>∃ vs,H a=some (.dK vs)/\FAll K G vs kvs
  | .dt kvs=>∃ vs,H a=some (.dT vs)/\FAll K G vs kvs
theorem OwnOk.there {K:PySem.W.Frag} {G H:Hp} {a:Addr} {o:OO} (h:OwnOk K G H a o):H a≠none:=by
  cases o with
  | lst ds=>obtain ⟨vs,e,_⟩:=h;rw [e];simp
  | ins x C fs=>obtain ⟨_,dx,vs,e,_⟩:=h;rw [e];simp
  | dk kvs=>obtain ⟨vs,e,_⟩:=h;rw [e];simp
  | dt kvs=>obtain ⟨vs,e,_⟩:=h;rw [e];simp
theorem OwnOk.keep {K:PySem.W.Frag} {G H G' H':Hp} {a:Addr} {o:OO} (h:OwnOk K G H a o) (e:Ex G G') (k:H' a=H a):OwnOk K G' H' a o:=by
  cases o with
  | lst ds=>obtain ⟨vs,q,r⟩:=h;exact ⟨vs,by rw [k];exact q,r.mono e⟩
  | ins x C fs=>obtain ⟨ex,dx,vs,q,g,r⟩:=h;exact ⟨ex,dx,vs,by rw [k];exact q,e _ _ g,r.mono e⟩
  | dk kvs=>obtain ⟨vs,q,r⟩:=h;exact ⟨vs,by rw [k];exact q,r.mono e⟩
  | dt kvs=>obtain ⟨vs,q,r⟩:=h;exact ⟨vs,by rw [k];exact q,r.mono e⟩
def BorOk (K:PySem.W.Frag) (G H:Hp) (a:Addr):OO->Prop
  | .dk kvs=>∃ o vs,H a=some (.frz o (.dK vs))/\FAll K G vs kvs
  | .dt kvs=>∃ o vs,H a=some (.frz o (.dT vs))/\FAll K G vs kvs
  | .lst ds=>OwnOk K G H a (.lst ds)
  | .ins x C fs=>OwnOk K G H a (.ins x C fs)
theorem BorOk.there {K:PySem.W.Frag} {G H:Hp} {a:Addr} {o:OO} (h:BorOk K G H a o):H a≠none:=by
  cases o with
  | lst ds=>exact OwnOk.there (K:=K) (G:=G) (o:=.lst ds) h
  | ins x C fs=>exact OwnOk.there (K:=K) (G:=G) (o:=.ins x C fs) h
  | dk kvs=>obtain ⟨o,vs,e,_⟩:=h;rw [e];simp
  | dt kvs=>obtain ⟨o,vs,e,_⟩:=h;rw [e];simp
theorem BorOk.keep {K:PySem.W.Frag} {G H G' H':Hp} {a:Addr} {o:OO} (h:BorOk K G H a o) (e:Ex G G') (k:H' a=H a):BorOk K G' H' a o:=by
  cases o with
  | lst ds=>exact OwnOk.keep (o:=.lst ds) h e k
  | ins x C fs=>exact OwnOk.keep (o:=.ins x C fs) h e k
  | dk kvs=>obtain ⟨o,vs,q,r⟩:=h;exact ⟨o,vs,by rw [k];exact q,r.mono e⟩
  | dt kvs=>obtain ⟨o,vs,q,r⟩:=h;exact ⟨o,vs,by rw [k];exact q,r.mono e⟩
def SeeOk (K:PySem.W.Frag) (G H:Hp) (a:Addr) (o:OO):Prop:=OwnOk K G H a o
def SrcOk (K:PySem.W.Frag) (G H:Hp) (a c:Addr):Prop:=G a=none/\∃ (ns:List Int) (i r sd n:Int),
  H a=some (.lst [.ref c,.int i,.int r,.int sd,.int n])/\SqL K G c (ns.map V.int)/\ns.length<=63/\0<=i/\0<=r/\0<=sd/\sd < 4294967296
def TabOk (G H:Hp) (a:Addr) (q:Str):Prop:=G a=none/\∃ ps:Array Value,H a=some (.tbl ps)/\TriplesOk ps.toList/\∀ (pos:Pos) (cv:Value),codeAmong pos ps.toList=some cv->∃ c,cv=.ref c/\G c=some (LamX.CodeO c q)
inductive Kd where
  | src (c:Addr) | tab (q:Str) | mt (C:Addr)
abbrev So:=List (Addr × Kd)
def So.Vol (so:So) (a:Addr):Prop:=∃ k,(a,k)∈so
abbrev So.Nt (so:So) (a:Addr):Prop:=¬ so.Vol a
def So.Nq (so:So) (a:Addr):Prop:=∀ k,(a,k)∈so->∃ C,k=.mt C
theorem So.Nt.q {so:So} {a:Addr} (h:so.Nt a):so.Nq a:=fun k e=>absurd ⟨k,e⟩ h
def lamNames:List Str:=["law","Tableau.improve","Ways.layer_step","_law_layer_step","plain_forms","_law_triangles","_law_case_layer","_law_fact_row","needless","exchangeable","_law_may","_law_set","_law_joined_due","_law_kept_by_hand"]
def lamFns (K:PySem.W.Frag):List (Addr × Addr × Str):=K.filterMap fun p=>match p.2.data with
  | .func fd=>(match fd.code with
    | .ref c=>if lamNames.contains fd.qualname then some (c,He.tabOf K c,fd.qualname++".<locals>."++"<lambda>") else none
    | _=>none)
  | _=>none
structure SoOk (K:PySem.W.Frag) (so:So):Prop where
  tb:∀ q∈lamFns K,(q.2.1,Kd.tab q.2.2)∈so
  uq:∀ a k k',(a,k)∈so->(a,k')∈so->k=k'
def KOk (K:PySem.W.Frag) (G H:Hp) (a:Addr):Kd->Prop
  | .src c=>SrcOk K G H a c
  | .tab q=>TabOk G H a q
  | .mt C=>G a=none/\((∃ dx vs,H a=some (.ins C dx vs)/\G dx=some (.own a))\/∃ vs,H a=some (.lst vs)\/(∃ ks,H a=some (.dK ks))\/∃ ks,H a=some (.dT ks))
theorem KOk.g {K:PySem.W.Frag} {G H:Hp} {a:Addr} {k:Kd} (h:KOk K G H a k):G a=none:=by
  cases k with
  | src c=>exact h.1
  | tab q=>exact h.1
  | mt C=>exact h.1
theorem KOk.there {K:PySem.W.Frag} {G H:Hp} {a:Addr} {k:Kd} (h:KOk K G H a k):H a≠none:=by
  cases k with
  | src c=>obtain ⟨_,_,_,_,_,_,e,_⟩:=h;rw [e];simp
  | tab q=>obtain ⟨_,_,e,_⟩:=h;rw [e];simp
  | mt C=>obtain ⟨_,⟨_,_,e,_⟩ | ⟨_,e | ⟨_,e⟩ | ⟨_,e⟩⟩⟩:=h<;>(rw [e];simp)
theorem KOk.keep {K:PySem.W.Frag} {H H' G G':Hp} {a:Addr} {k:Kd} (s:KOk K G H a k) (e:Ex G G') (g:G' a=none) (q:H' a=H a):KOk K G' H' a k:=by
  cases k with
  | src c=>
    obtain ⟨_,ns,i,r,sd,n,h1,h2,h3⟩:=s
    exact ⟨g,ns,i,r,sd,n,by rw [q];exact h1,ex_l e h2,h3⟩
  | tab z=>
    obtain ⟨_,ps,h1,h2,h3⟩:=s
    exact ⟨g,ps,by rw [q];exact h1,h2,fun pos cv hc=>let ⟨c,e1,e2⟩:=h3 pos cv hc;⟨c,e1,e _ _ e2⟩⟩
  | mt C=>
    obtain ⟨_,⟨dx,vs,h1,h2⟩ | ⟨vs,h⟩⟩:=s
    · exact ⟨g,.inl ⟨dx,vs,by rw [q];exact h1,e _ _ h2⟩⟩
    · exact ⟨g,.inr ⟨vs,by rw [q];exact h⟩⟩
def VOk (K:PySem.W.Frag) (G:Hp) (so:So) (H:Hp) (v:V):DV->Prop
  | .d x=>DOk K G v x
  | .src=>∃ a,(∃ c,(a,.src c)∈so)/\v=.ref a
  | .own o=>∃ a,v=.ref a/\G a=none/\so.Nt a/\OwnOk K G H a o
  | .bor o=>∃ a,v=.ref a/\so.Nt a/\BorOk K G H a o
  | .see o=>∃ a,v=.ref a/\so.Nt a/\SeeOk K G H a o
  | .mu _ _ _=>False
  | .gh _ _=>False
def SlOk (K:PySem.W.Frag) (G:Hp) (so:So) (H:Hp) (v:V):DV->Prop
  | .mu x C fs=>v=.ref x/\(x,.mt C)∈so/\∃ dx vs,H x=some (.ins C dx vs)/\FAll K G vs fs
  | .gh x r=>v=.ref x/\(∀ a∈r.as,(a,.mt (r.kd a))∈so/\H a≠none)/\r.R K G H
  | dv=>VOk K G so H v dv
structure HRep (K:PySem.W.Frag) (G:Hp) (so:So) (H:Hp):Prop where
  ex:Ex G H
  vol:∀ a k,(a,k)∈so->KOk K G H a k
  ok:SoOk K so
  tp:∀ a xs,H a=some (.tup xs)->G a=some (.tup xs)
theorem aea {G H:Hp} {a:Addr} {o:HO} (h:∀ b xs,H b=some (.tup xs)->G b=some (.tup xs)) (nt:∀ xs,o≠.tup xs):∀ b xs,(upd H a o) b=some (.tup xs)->G b=some (.tup xs):=fun b xs e=>by
  by_cases z:b=a
  · subst z;rw [upd_same] at e;exact absurd (Option.some.inj e) (nt xs)
  · rw [upd_ne z] at e;exact h b xs e
theorem tp_G {G H:Hp} {a:Addr} {u:HO} (h:∀ b xs,H b=some (.tup xs)->G b=some (.tup xs)) (ga:G a=none):∀ b xs,H b=some (.tup xs)->(upd G a u) b=some (.tup xs):=fun b xs e=>by
  have g:=h b xs e
  rw [upd_ne (fun z=>by rw [z,ga] at g;cases g)];exact g
theorem ajv {G H:Hp} {a:Addr} {o:HO} (h:∀ b xs,H b=some (.tup xs)->G b=some (.tup xs)):∀ b xs,(upd H a o) b=some (.tup xs)->(upd G a o) b=some (.tup xs):=fun b xs e=>by
  by_cases z:b=a
  · subst z;rw [upd_same] at e ⊢;exact e
  · rw [upd_ne z] at e ⊢;exact h b xs e
theorem HRep.nsrc {K:PySem.W.Frag} {G:Hp} {so:So} {H:Hp} (h:HRep K G so H) {a:Addr} {o:HO} (q:G a=some o):so.Nt a:=fun ⟨k,z⟩=>by
  rw [(h.vol a k z).g] at q;cases q
theorem HRep.there {K:PySem.W.Frag} {G:Hp} {so:So} {H:Hp} (h:HRep K G so H) {a:Addr} (q:H a=none):so.Nt a:=fun ⟨k,z⟩=>(h.vol a k z).there q
theorem HRep.vth {K:PySem.W.Frag} {G:Hp} {so:So} {H:Hp} (h:HRep K G so H) {a:Addr} (s:so.Vol a):H a≠none:=fun q=>h.there q s
abbrev DSt:=List (Option DV)
def Own (sl:DSt) (σ:L2.St) (a:Addr):Prop:=∃ (i:Nat) (o:OO),sl[i]?=some (some (.own o))/\σ[i]?=some (some (.ref a))
structure Rep (K:PySem.W.Frag) (G:Hp) (so:So) (σ:L2.St) (H:Hp) (sl:DSt):Prop where
  h:HRep K G so H
  len:sl.length=σ.length
  slots:∀ (i:Nat) (dv:DV),sl[i]?=some (some dv)->∃ v,σ[i]?=some (some v)/\SlOk K G so H v dv
  sep:∀ (i j:Nat) (o o':OO) (a:Addr),sl[i]?=some (some (.own o))->sl[j]?=some (some (.own o'))->σ[i]?=some (some (.ref a))->σ[j]?=some (some (.ref a))->i=j
  bor:∀ (i:Nat) (o:OO) (a:Addr),sl[i]?=some (some (.bor o))->σ[i]?=some (some (.ref a))->¬ Own sl σ a
  nse:∀ (i:Nat) (o:OO),sl[i]?≠some (some (.see o))
structure Post (K:PySem.W.Frag) (G:Hp) (so:So) (σ:L2.St) (H:Hp) (sl:DSt) (H' G':Hp) (sl':DSt):Prop where
  ex:Ex G G'
  rep:Rep K G' so σ H' sl'
  keep:∀ a o,H a=some o->so.Nt a->H' a=some o
  frm:∀ a,H a≠none->G a=none->so.Nt a->¬ Own sl σ a->G' a=none
  sub:∀ a,Own sl' σ a->Own sl σ a
  bsub:∀ (i:Nat) (o:OO),sl'[i]?=some (some (.bor o))->∃ o',sl[i]?=some (some (.bor o'))
structure PostE (K:PySem.W.Frag) (G:Hp) (so:So) (σ:L2.St) (H:Hp) (sl:DSt) (v:V) (H' G':Hp) (dv:DV) (sl':DSt):Prop extends Post K G so σ H sl H' G' sl' where
  val:VOk K G' so H' v dv
  new:∀ a o,dv=.own o->v=.ref a->H a=none\/Own sl σ a
  sepv:∀ a o,dv=.own o\/dv=.bor o->v=.ref a->¬ Own sl' σ a
  nbs:∀ (a:Addr) (o:OO) (i:Nat) (o':OO),dv=.own o->v=.ref a->sl'[i]?=some (some (.bor o'))->σ[i]?=some (some (.ref a))->False
section
variable {K:PySem.W.Frag} {G G1 G2:Hp} {so:So} {σ:L2.St} {H H1 H2:Hp} {sl s1 s2:DSt} {v x y:V} {dv dx dy:DV}
theorem Rep.nown (r:Rep K G so σ H sl) {a:Addr} (h:Own sl σ a):H a≠none/\G a=none/\so.Nt a:=by
  obtain ⟨i,o,e1,e2⟩:=h
  obtain ⟨v,e3,e4⟩:=r.slots i _ e1
  rw [e2] at e3;cases e3
  obtain ⟨b,q,g,s,k⟩:=e4
  cases q
  exact ⟨k.there,g,s⟩
theorem Post.refl (r:Rep K G so σ H sl):Post K G so σ H sl H G sl:=⟨Ex.refl G,r,fun _ _ e _=>e,fun _ _ g _ _=>g,fun _ o=>o,fun _ o e=>⟨o,e⟩⟩
theorem al9 {H H':Hp} {so:So} (k:∀ a o,H a=some o->so.Nq a->H' a=some o) {a:Addr} (n:H a≠none) (s:so.Nq a):H' a=H a:=by
  cases q:H a with
  | none=>exact absurd q n
  | some o=>exact k a o q s
theorem aby {H H':Hp} {so:So} (k:∀ a o,H a=some o->so.Nt a->H' a=some o) {a:Addr} (n:H a≠none) (s:so.Nt a):H' a=H a:=by
  cases q:H a with
  | none=>exact absurd q n
  | some o=>exact k a o q s
theorem Post.trans (a:Post K G so σ H sl H1 G1 s1) (b:Post K G1 so σ H1 s1 H2 G2 s2):Post K G so σ H sl H2 G2 s2:=
  ⟨a.ex.trans b.ex,b.rep,fun c o e s=>b.keep c o (a.keep c o e s) s,fun c n g s w=>by
    have n1:H1 c≠none:=by rw [aby a.keep n s];exact n
    exact b.frm c n1 (a.frm c n g s w) s fun z=>w (a.sub c z),fun c o=>a.sub c (b.sub c o),fun i o e=>let ⟨o1,e1⟩:=b.bsub i o e;a.bsub i o1 e1⟩
theorem VOk.keep (h:VOk K G so H x dx) (e:Ex G G1) (k:∀ a o,H a=some o->so.Nt a->H1 a=some o) (g:∀ a o,dx=.own o->x=.ref a->G1 a=none):VOk K G1 so H1 x dx:=by
  cases dx with
  | d z=>exact DOk.mono e h
  | src=>exact h
  | own o=>
    obtain ⟨a,q,q1,q2,q3⟩:=h
    exact ⟨a,q,g a o rfl q,q2,q3.keep e (aby k q3.there q2)⟩
  | bor o=>
    obtain ⟨a,q,q2,q3⟩:=h
    exact ⟨a,q,q2,q3.keep e (aby k q3.there q2)⟩
  | see o=>
    obtain ⟨a,q,q2,q3⟩:=h
    exact ⟨a,q,q2,q3.keep e (aby k q3.there q2)⟩
  | mu y C fs=>exact h
  | gh y r=>exact h
theorem SlOk.keep (h:SlOk K G so H x dx) (ok:SoOk K so) (e:Ex G G1) (k:∀ a o,H a=some o->so.Nq a->H1 a=some o) (g:∀ a o,dx=.own o->x=.ref a->G1 a=none):SlOk K G1 so H1 x dx:=by
  have k':∀ a o,H a=some o->so.Nt a->H1 a=some o:=fun a o e s=>k a o e s.q
  cases dx with
  | mu y C fs=>
    obtain ⟨q,m,dx,vs,h1,h2⟩:=h
    exact ⟨q,m,dx,vs,k y _ h1 fun k' e'=>⟨C,ok.uq y k' (.mt C) e' m⟩,h2.mono e⟩
  | gh y r=>
    obtain ⟨q,m,h1⟩:=h
    have kp:∀ a∈r.as,H1 a=H a:=fun a ha=>by
      obtain ⟨m1,m2⟩:=m a ha
      obtain ⟨o,z⟩:=Option.ne_none_iff_exists'.mp m2
      rw [z,k a o z fun k' e'=>⟨r.kd a,ok.uq a k' (.mt (r.kd a)) e' m1⟩]
    exact ⟨q,fun a ha=>⟨(m a ha).1,by rw [kp a ha];exact (m a ha).2⟩,r.st K G G1 H H1 e kp h1⟩
  | d z=>exact VOk.keep (dx:=.d z) h e k' g
  | src=>exact VOk.keep (K:=K) (dx:=.src) h e k' g
  | own o=>exact VOk.keep (dx:=.own o) h e k' g
  | bor o=>exact VOk.keep (dx:=.bor o) h e k' g
  | see o=>exact VOk.keep (dx:=.see o) h e k' g
theorem SlOk.val (h:SlOk K G so H x dx) (n:∀ y C fs,dx≠.mu y C fs) (n2:∀ y r,dx≠.gh y r):VOk K G so H x dx:=by
  cases dx with
  | mu y C fs=>exact absurd rfl (n y C fs)
  | gh y r=>exact absurd rfl (n2 y r)
  | _=>exact h
theorem VOk.slot (h:VOk K G so H x dx):SlOk K G so H x dx:=by
  cases dx with
  | mu y C fs=>exact h.elim
  | gh y r=>exact h.elim
  | _=>exact h
theorem SlOk.muU {a y C:Addr} {o:HO} {fs:List (Str × D)} (h:SlOk K G so H x (.mu y C fs)) (e:Ex G G1) (n:so.Nt a):SlOk K G1 so (upd H a o) x (.mu y C fs):=by
  obtain ⟨q,m,dx,vs,h1,h2⟩:=h
  exact ⟨q,m,dx,vs,by rw [upd_ne (fun z=>n ⟨_,z ▸ m⟩)];exact h1,h2.mono e⟩
theorem SlOk.ghU {a y:Addr} {o:HO} {r:GR} (h:SlOk K G so H x (.gh y r)) (e:Ex G G1) (n:so.Nt a):SlOk K G1 so (upd H a o) x (.gh y r):=by
  obtain ⟨q,m,h1⟩:=h
  have kp:∀ b∈r.as,upd H a o b=H b:=fun b hb=>upd_ne (fun z=>n ⟨_,z ▸ (m b hb).1⟩)
  exact ⟨q,fun b hb=>⟨(m b hb).1,by rw [kp b hb];exact (m b hb).2⟩,r.st K G G1 H _ e kp h1⟩
theorem PostE.over (a:PostE K G so σ H sl x H1 G1 dx s1) (b:Post K G1 so σ H1 s1 H2 G2 s2):VOk K G2 so H2 x dx:=
  a.val.keep b.ex b.keep fun c o e q=>by
    have w:VOk K G1 so H1 x dx:=a.val
    rw [e] at w
    obtain ⟨c',q',g,s,k⟩:=w
    rw [q] at q';cases q'
    exact b.frm c k.there g s (a.sepv c o (.inl e) q)
end
structure PostV (K:PySem.W.Frag) (G:Hp) (so:So) (H:Hp) (v:V) (H' G':Hp) (dv:DV):Prop where
  ex:Ex G G'
  hrep:HRep K G' so H'
  keep:∀ a o,H a=some o->so.Nq a->H' a=some o
  frm:∀ a,H a≠none->G a=none->so.Nt a->G' a=none
  val:VOk K G' so H' v dv
  new:∀ a o,dv=.own o->v=.ref a->H a=none
  nob:∀ o,dv≠.bor o
section
variable {K:PySem.W.Frag} {G G':Hp} {so:So} {σ:L2.St} {H H':Hp} {sl:DSt} {v:V} {dv:DV}
theorem PostV.slots (p:PostV K G so H v H' G' dv) (r:Rep K G so σ H sl):PostE K G so σ H sl v H' G' dv sl where
  ex:=p.ex
  rep:=⟨p.hrep,r.len,fun i d e=>by
    obtain ⟨w,e1,e2⟩:=r.slots i d e
    refine ⟨w,e1,SlOk.keep e2 r.h.ok p.ex p.keep fun a o ed q=>?_⟩
    subst ed
    subst q
    obtain ⟨n,g,s⟩:=r.nown ⟨i,o,e,e1⟩
    exact p.frm a n g s,r.sep,r.bor,r.nse⟩
  keep:=fun a o e s=>p.keep a o e s.q
  frm:=fun a n g s _=>p.frm a n g s
  sub:=fun _ o=>o
  bsub:=fun _ o e=>⟨o,e⟩
  val:=p.val
  new:=fun a o e q=>.inl (p.new a o e q)
  sepv:=fun a o e q z=>e.elim (fun e=>(r.nown z).1 (p.new a o e q)) fun e=>p.nob o e
  nbs:=fun a o i o' e q e1 e2=>by
    obtain ⟨w,f1,f2⟩:=r.slots i _ e1
    rw [e2] at f1;cases f1
    obtain ⟨b,z,_,k⟩:=f2
    cases z
    exact k.there (p.new a o e q)
theorem PostV.pure (h:HRep K G so H) (w:VOk K G so H v dv) (n:∀ o,dv≠.own o) (m:∀ o,dv≠.bor o):PostV K G so H v H G dv:=
  ⟨Ex.refl G,h,fun _ _ e _=>e,fun _ _ g _=>g,w,fun _ o e=>absurd e (n o),m⟩
theorem PostV.dat {x:D} (h:HRep K G so H) (w:DOk K G v x):PostV K G so H v H G (.d x):=.pure h w (fun _ e=>(nomatch e)) fun _ e=>(nomatch e)
theorem HRep.alloc {p:Addr} {o:HO} (h:HRep K G so H) (n:H p=none) (nt:∀ xs,o≠.tup xs:=by intro _ z;cases z):HRep K G so (upd H p o):=
  ⟨h.ex.trans (Ex.new n),fun a k e=>(h.vol a k e).keep (Ex.refl G) (h.vol a k e).g (upd_ne fun z=>h.there n (z ▸ ⟨k,e⟩)),h.ok,aea h.tp nt⟩
theorem HRep.allocG {p:Addr} {o:HO} (h:HRep K G so H) (n:H p=none):HRep K (upd G p o) so (upd H p o):=
  ⟨h.ex.up,fun a k e=>
    have z:a≠p:=fun z=>h.there n (z ▸ ⟨k,e⟩)
    (h.vol a k e).keep (Ex.new (h.ex.free n)) (by rw [upd_ne z];exact (h.vol a k e).g) (upd_ne z),h.ok,ajv h.tp⟩
theorem PostV.list {p:Addr} {vs:List V} {ds:List D} (h:HRep K G so H) (n:H p=none) (a:DAll K G vs ds):PostV K G so H (.ref p) (upd H p (.lst vs)) G (.own (.lst ds)):=
  ⟨Ex.refl G,h.alloc n,fun _ _ e _=>Ex.new n _ _ e,fun _ _ g _=>g,⟨p,rfl,h.ex.free n,h.there n,vs,upd_same,a⟩,fun b o e q=>(by cases q;exact n),fun _ e=>(nomatch e)⟩
theorem PostV.tuple {p:Addr} {vs:List V} {ds:List D} (h:HRep K G so H) (n:H p=none) (a:DAll K G vs ds):PostV K G so H (.ref p) (upd H p (.tup vs)) (upd G p (.tup vs)) (.d (.tup ds)):=
  ⟨Ex.new (h.ex.free n),h.allocG n,fun _ _ e _=>Ex.new n _ _ e,fun b q g _=>by rw [upd_ne (fun z=>by subst z;exact q n)];exact g,
    .tup (SqT.of upd_same) (a.mono (Ex.new (h.ex.free n))),fun _ o e=>(nomatch e),fun _ e=>(nomatch e)⟩
theorem PostV.trans {v1 v2:V} {d1 d2:DV} {H1 H2 G1 G2:Hp} (a:PostV K G so H v1 H1 G1 d1) (b:PostV K G1 so H1 v2 H2 G2 d2):PostV K G so H v2 H2 G2 d2:=
  ⟨a.ex.trans b.ex,b.hrep,fun c o e s=>b.keep c o (a.keep c o e s) s,fun c n g s=>b.frm c (by rw [al9 a.keep n s.q];exact n) (a.frm c n g s) s,b.val,fun c o e q=>by
    cases z:H c with
    | none=>rfl
    | some u=>
      have n:=b.new c o e q
      by_cases s:so.Vol c
      · exact absurd n (a.hrep.vth s)
      · rw [a.keep c u z (So.Nt.q s)] at n
        exact (nomatch n),b.nob⟩
end
def tpUp (G H2:Hp):Hp:=fun b=>match H2 b with
  | some (.tup xs)=>some (.tup xs)
  | _=>G b
section
variable {K:PySem.W.Frag} {G:Hp} {so:So} {H H2:Hp}
theorem ajw (h:HRep K G so H) (e:Ex H H2):Ex G (tpUp G H2):=fun b o q=>by
  have z:=e b o (h.ex b o q)
  unfold tpUp
  rw [z]
  cases o<;>first | rfl | exact q
theorem aiG {b:Addr} (h:HRep K G so H) (e:Ex H H2) (n:H b≠none) (g:G b=none):tpUp G H2 b=none:=by
  cases q:H b with
  | none=>exact absurd q n
  | some o=>
    have z:=e b o q
    unfold tpUp
    rw [z]
    cases o with
    | tup xs=>rw [h.tp b xs q] at g;cases g
    | _=>exact g
theorem HRep.grow (h:HRep K G so H) (e:Ex H H2):HRep K (tpUp G H2) so H2:=by
  refine ⟨fun b o q=>?_,fun a k q=>?_,h.ok,fun b xs q=>by unfold tpUp;rw [q]⟩
  · unfold tpUp at q
    split at q
    · rename_i xs z;cases q;exact z
    · exact e b o (h.ex b o q)
  · have t:=(h.vol a k q).there
    have same:H2 a=H a:=by
      cases z:H a with
      | none=>exact absurd z t
      | some o=>exact e a o z
    exact (h.vol a k q).keep (ajw h e) (aiG h e t (h.vol a k q).g) same
end
abbrev XP:=Value->List (Str × D)->DSt->Prop
abbrev TD:=DSt->(DV->DSt->Prop)->XP->Prop
abbrev TDT:=DSt->(Bool->DSt->Prop)->XP->Prop
abbrev TDA:=DSt->(List DV->DSt->Prop)->XP->Prop
structure EndsD where
  nx:DSt->Prop
  rt:DV->DSt->Prop
  bk:DSt->Prop
  ct:DSt->Prop
  xc:XP
abbrev TDS:=EndsD->DSt->Prop
def XdOk (K:PySem.W.Frag) (G H:Hp):Option Addr->List (Str × D)->Prop
  | some dx,fs=>∃ vs,H dx=some (.xd vs)/\FAll K G vs fs
  | none,fs=>fs=[]
def XOk (K:PySem.W.Frag) (W:WX) (G:Hp) (so:So) (σ:L2.St) (H:Hp) (sl:DSt) (E:XP):Prop:=
  ∀ cls d H' G' fs sl',Post K G so σ H sl H' G' sl'->XdOk K G' H' d fs->E cls fs sl'->W cls d σ H'
inductive VsOk (K:PySem.W.Frag) (G:Hp) (so:So) (H:Hp):List V->List DV->Prop
  | nil:VsOk K G so H [] []
  | cons {v:V} {d:DV} {vs:List V} {ds:List DV}:VOk K G so H v d->(∀ o,d≠.own o)->VsOk K G so H vs ds->VsOk K G so H (v::vs) (d::ds)
section
variable (K:PySem.W.Frag) (W:WX)
def up (t:TD):TE:=fun σ H R=>∃ G so sl Q E,Rep K G so σ H sl/\t sl Q E/\(∀ v H' G' dv sl',PostE K G so σ H sl v H' G' dv sl'->Q dv sl'->R v H')/\XOk K W G so σ H sl E
def upT (t:TDT):TT:=fun σ H R=>∃ G so sl Q E,Rep K G so σ H sl/\t sl Q E/\(∀ b H' G' sl',Post K G so σ H sl H' G' sl'->Q b sl'->R b H')/\XOk K W G so σ H sl E
def upA (t:TDA):TA:=fun σ H R=>∃ G so sl Q E,Rep K G so σ H sl/\t sl Q E/\(∀ vs H' G' ds sl',Post K G so σ H sl H' G' sl'->VsOk K G' so H' vs ds->Q ds sl'->R vs H')/\XOk K W G so σ H sl E
end
def DE (X:Cx) (W:WX) (e:Expr) (t:TD):Prop:=PE X e (up X.K W t)
def DT (X:Cx) (W:WX) (e:Expr) (t:TDT):Prop:=PT X e (upT X.K W t)
def DA (X:Cx) (W:WX) (es:List Expr) (t:TDA):Prop:=PA X es (upA X.K W t)
theorem aaD {X:Cx} {e:Expr} {t t':TE} (h:PE X e t) (f:∀ σ H R,t' σ H R->t σ H R):PE X e t':=⟨fun pins s σ H Q I q=>h.run pins s σ H Q I (f _ _ _ q)⟩
theorem akk {X:Cx} {e:Expr} {t t':TT} (h:PT X e t) (f:∀ σ H R,t' σ H R->t σ H R):PT X e t':=⟨fun pins s σ H Q I q=>h.run pins s σ H Q I (f _ _ _ q)⟩
theorem anO {X:Cx} {e:Expr} {t t':TT} (h:PW X e t) (f:∀ σ H R,t' σ H R->t σ H R):PW X e t':=⟨fun wh pins s σ H Q I q=>h.run wh pins s σ H Q I (f _ _ _ q)⟩
theorem akm {X:Cx} {es:List Expr} {t t':TA} (h:PA X es t) (f:∀ σ H R,t' σ H R->t σ H R):PA X es t':=⟨fun pos pins s σ H Q I q=>h.run pos pins s σ H Q I (f _ _ _ q)⟩
theorem adp {X:Cx} {e:Stmt} {t t':TS} (h:PS X e t) (f:∀ D σ H,t' D σ H->t D σ H):PS X e t':=⟨fun pins s σ H Q I q=>h.run pins s σ H Q I (f _ _ _ q)⟩
theorem afz {X:Cx} {e:List Stmt} {t t':TS} (h:PSs X e t) (f:∀ D σ H,t' D σ H->t D σ H):PSs X e t':=⟨fun pins s σ H Q I q=>h.run pins s σ H Q I (f _ _ _ q)⟩
section
variable {K:PySem.W.Frag} {W:WX} {G G1 G2:Hp} {so:So} {σ:L2.St} {H H1 H2:Hp} {sl s1 s2:DSt} {v x y:V} {dv dx dy:DV} {E:XP}
theorem XOk.step (h:XOk K W G so σ H sl E) (p:Post K G so σ H sl H1 G1 s1):XOk K W G1 so σ H1 s1 E:=fun cls d H' G' fs sl' q a b=>h cls d H' G' fs sl' (p.trans q) a b
theorem Post.back (a:Post K G so σ H sl H1 G1 s1) {c:Addr} (n:H1 c=none):H c=none:=by
  cases z:H c with
  | none=>rfl
  | some u=>
    by_cases s:so.Vol c
    · exact absurd n (a.rep.h.vth s)
    · rw [a.keep c u z s] at n;cases n
theorem Post.thenE (a:Post K G so σ H sl H1 G1 s1) (b:PostE K G1 so σ H1 s1 v H2 G2 dv s2):PostE K G so σ H sl v H2 G2 dv s2:=
  { a.trans b.toPost with
    val:=b.val
    new:=fun c o e q=>(b.new c o e q).imp a.back (a.sub c)
    sepv:=b.sepv
    nbs:=b.nbs }
theorem Post.thenV (a:Post K G so σ H sl H1 G1 s1) (b:PostV K G1 so H1 v H2 G2 dv):PostE K G so σ H sl v H2 G2 dv s1:=a.thenE (b.slots a.rep)
theorem VsOk.keep:∀ {vs:List V} {ds:List DV},VsOk K G so H vs ds->Ex G G1->(∀ a o,H a=some o->so.Nt a->H1 a=some o)->VsOk K G1 so H1 vs ds
  | _,_,.nil,_,_=>.nil
  | _,_,.cons h n t,e,k=>.cons (h.keep e k fun a o q=>absurd q (n o)) n (VsOk.keep t e k)
theorem VsOk.length:∀ {vs:List V} {ds:List DV},VsOk K G so H vs ds->vs.length=ds.length
  | _,_,.nil=>rfl
  | _,_,.cons _ _ t=>congrArg (· + 1) (VsOk.length t)
end
def pubO:OO->D
  | .lst ds=>.lst ds
  | .ins _ C fs=>.ins C fs
  | .dk _=>.any
  | .dt _=>.any
def pubV:DV->DV
  | .own o=>.d (pubO o)
  | x=>x
theorem akj (dv:DV):∀ o,pubV dv≠.own o:=fun o h=>by cases dv<;>cases h
section
variable {K:PySem.W.Frag} {W:WX} {G G1 G2:Hp} {so:So} {σ:L2.St} {H H1 H2:Hp} {sl s1 s2:DSt} {v x y:V} {dv dx dy:DV} {E:XP}
theorem alD {a:Addr} {o:OO} (h:OwnOk K G H a o) (g:G a=none):∃ u,H a=some u/\DOk K (upd G a u) (.ref a) (pubO o):=by
  cases o with
  | lst ds=>obtain ⟨vs,e,r⟩:=h;exact ⟨_,e,.lst upd_same (r.mono (Ex.new g))⟩
  | ins x C fs=>obtain ⟨_,dx,vs,e,gd,r⟩:=h;exact ⟨_,e,.ins upd_same (Ex.new g _ _ gd) (r.mono (Ex.new g))⟩
  | dk kvs=>obtain ⟨vs,e,r⟩:=h;exact ⟨_,e,.any _⟩
  | dt kvs=>obtain ⟨vs,e,r⟩:=h;exact ⟨_,e,.any _⟩
theorem aik {a:Addr} {u:HO} (h:HRep K G so H) (e:H a=some u) (g:G a=none) (s:so.Nt a):HRep K (upd G a u) so H:=
  ⟨fun b o q=>by
    by_cases z:b=a
    · subst z;rw [upd_same] at q;cases q;exact e
    · rw [upd_ne z] at q;exact h.ex b o q,
  fun b k q=>by
    have z:b≠a:=fun z=>s (z ▸ ⟨k,q⟩)
    exact (h.vol b k q).keep (Ex.new g) (by rw [upd_ne z];exact (h.vol b k q).g) rfl,h.ok,tp_G h.tp g⟩
theorem aov {a:Addr} {u:HO} (r:Rep K G so σ H sl) (e:H a=some u) (g:G a=none) (s:so.Nt a) (n:¬ Own sl σ a):Rep K (upd G a u) so σ H sl:=
  ⟨aik r.h e g s,r.len,fun i d q=>by
    obtain ⟨w,e1,e2⟩:=r.slots i d q
    refine ⟨w,e1,SlOk.keep e2 r.h.ok (Ex.new g) (fun _ _ z _=>z) fun b o ed qb=>?_⟩
    subst ed;subst qb
    have z:b≠a:=fun z=>n ⟨i,o,q,z ▸ e1⟩
    rw [upd_ne z];exact (r.nown ⟨i,o,q,e1⟩).2.1,r.sep,r.bor,r.nse⟩
theorem PostE.pub (p:PostE K G so σ H sl v H1 G1 dv s1):∃ G2,PostE K G so σ H sl v H1 G2 (pubV dv) s1:=by
  cases dv with
  | d x=>exact ⟨G1,p⟩
  | src=>exact ⟨G1,p⟩
  | bor o=>exact ⟨G1,p⟩
  | see o=>exact ⟨G1,p⟩
  | mu _ _ _=>exact ⟨G1,p⟩
  | gh _ _=>exact ⟨G1,p⟩
  | own o=>
    obtain ⟨a,q,g,s,ok⟩:=p.val
    subst q
    obtain ⟨u,e,dk⟩:=alD ok g
    have n:=p.sepv a o (.inl rfl) rfl
    refine ⟨upd G1 a u,{ ex:=p.ex.trans (Ex.new g),rep:=aov p.rep e g s n,keep:=p.keep,frm:=fun b n1 g1 s1' w=>?_,sub:=p.sub,bsub:=p.bsub,val:=dk,new:=fun _ o' e'=>(nomatch e'),sepv:=fun _ o' e'=>e'.elim (fun e'=>(nomatch e')) fun e'=>(nomatch e'),nbs:=fun _ _ _ _ e'=>(nomatch e') }⟩
    have z:b≠a:=fun z=>by
      subst z
      rcases p.new b o rfl rfl with k | k
      · exact n1 k
      · exact w k
    rw [upd_ne z];exact p.frm b n1 g1 s1' w
end
def dC (x:D):TD:=fun sl Q _=>Q (.d x) sl
def dVar (i:Nat):TD:=fun sl Q _=>match sl[i]? with
  | some (some (.own o))=>Q (.d (pubO o)) (sl.set i (some (.d (pubO o))))
  | some (some (.mu _ _ _))=>False
  | some (some (.gh _ _))=>False
  | some (some dv)=>Q dv sl
  | _=>False
def dSee (i:Nat):TD:=fun sl Q _=>match sl[i]? with
  | some (some (.own o))=>Q (.see o) sl
  | some (some (.mu _ _ _))=>False
  | some (some (.gh _ _))=>False
  | some (some dv)=>Q dv sl
  | _=>False
section
variable {K:PySem.W.Frag} {W:WX} {G G1 G2:Hp} {so:So} {σ:L2.St} {H H1 H2:Hp} {sl s1 s2:DSt} {v x y:V} {dv dx dy:DV} {E:XP} {X:Cx}
theorem de_c {e:Expr} {u:V} {d:D} (h:PE X e (tC u)) (r:∀ G,DOk X.K G u d):DE X W e (dC d):=aaD h fun σ H R ⟨G,so,sl,Q,E,rep,q,hq,_⟩=>
  hq u H G _ sl ((Post.refl rep).thenV (.dat rep.h (r G))) q
theorem aaf {i:Int} {j:Nat} {pos:Pos}:DE X W (.Constant (.int i) j pos) (dC (.int i)):=de_c pe_int fun _=>.int _
theorem aev {b:Bool} {j:Nat} {pos:Pos}:DE X W (.Constant (.bool b) j pos) (dC (.bl b)):=de_c pe_bl fun _=>.bl _
theorem aer {j:Nat} {pos:Pos}:DE X W (.Constant .none j pos) (dC .non):=de_c pe_non fun _=>.non
theorem aa7 {x:Str} {j:Nat} {pos:Pos}:DE X W (.Constant (.str x) j pos) (dC (.str x)):=de_c pe_str fun _=>.str _
theorem VOk.see {o:OO} (h:VOk K G so H v (.own o)):VOk K G so H v (.see o):=by
  obtain ⟨a,q,_,s,k⟩:=h
  exact ⟨a,q,s,k⟩
theorem PostE.here (rep:Rep K G so σ H sl) (w:VOk K G so H v dv) (n:∀ o,dv≠.own o) (m:∀ a o,dv=.bor o->v=.ref a->¬ Own sl σ a):PostE K G so σ H sl v H G dv sl:=
  { Post.refl rep with
    val:=w
    new:=fun _ o e=>absurd e (n o)
    sepv:=fun a o e q=>e.elim (fun e=>absurd e (n o)) fun e=>m a o e q
    nbs:=fun _ o _ _ e=>absurd e (n o) }
theorem own_set {i:Nat} {d:D} {a:Addr} (h:Own (sl.set i (some (.d d))) σ a):Own sl σ a/\σ[i]?≠some (some (.ref a))\/(Own sl σ a/\∃ j,j≠i/\∃ o,sl[j]?=some (some (.own o))/\σ[j]?=some (some (.ref a))):=by
  obtain ⟨j,o,e1,e2⟩:=h
  have ne:j≠i:=fun z=>by
    subst z
    rw [List.getElem?_set] at e1
    split at e1
    · split at e1<;>cases e1
    · rename_i k;exact k rfl
  rw [List.getElem?_set_ne ne.symm] at e1
  exact .inr ⟨⟨j,o,e1,e2⟩,j,ne,o,e1,e2⟩
theorem aac {i:Nat} {n:Str} {pos:Pos} (h:PE X (.Name n pos) (tVar i)):DE X W (.Name n pos) (dVar i):=aaD h fun σ H R ⟨G,so,sl,Q,E,rep,q,hq,_⟩=>by
  unfold dVar at q
  split at q
  · rename_i o e
    obtain ⟨v,e1,w⟩:=rep.slots i _ e
    refine ⟨v,e1,?_⟩
    obtain ⟨a,qa,g,s,ok⟩:=w
    subst qa
    obtain ⟨u,eu,dk⟩:=alD ok g
    have others:∀ b,Own (sl.set i (some (.d (pubO o)))) σ b->Own sl σ b/\b≠a:=fun b z=>by
      rcases own_set z with ⟨k1,k2⟩ | ⟨k1,j,ne,o',k2,k3⟩
      · exact ⟨k1,fun z=>k2 (z ▸ e1)⟩
      · exact ⟨k1,fun z=>ne (rep.sep j i o' o a k2 e (z ▸ k3) e1)⟩
    refine hq _ H (upd G a u) _ _ ?_ q
    refine { ex:=Ex.new g,rep:=⟨aik rep.h eu g s,by rw [List.length_set];exact rep.len,fun j d ej=>?_,fun j k o1 o2 b e1' e2' e3 e4=>?_,fun j o1 b e1' e2' z=>?_,fun j o1 z=>?_⟩,keep:=fun _ _ z _=>z,frm:=fun b n1 g1 s1 w=>?_,sub:=fun b z=>(others b z).1,bsub:=fun j o1 z=>?_,val:=dk,new:=fun _ o' e'=>(nomatch e'),sepv:=fun _ o' e'=>e'.elim (fun e'=>(nomatch e')) fun e'=>(nomatch e'),nbs:=fun _ _ _ _ e'=>(nomatch e') }
    · by_cases ji:j=i
      · subst ji
        rw [List.getElem?_set] at ej
        split at ej
        · split at ej
          · cases ej;exact ⟨_,e1,dk⟩
          · cases ej
        · rename_i k;exact absurd rfl k
      · rw [List.getElem?_set_ne (Ne.symm ji)] at ej
        obtain ⟨w',f1,f2⟩:=rep.slots j d ej
        refine ⟨w',f1,SlOk.keep f2 rep.h.ok (Ex.new g) (fun _ _ z _=>z) fun b o' ed qb=>?_⟩
        subst ed;subst qb
        have z:b≠a:=fun z=>ji (rep.sep j i o' o a ej e (z ▸ f1) e1)
        rw [upd_ne z];exact (rep.nown ⟨j,o',ej,f1⟩).2.1
    · have f:∀ (m:Nat) (o3:OO),(sl.set i (some (.d (pubO o))))[m]?=some (some (.own o3))->sl[m]?=some (some (.own o3)):=fun m o3 em=>by
        by_cases mi:m=i
        · subst mi
          rw [List.getElem?_set] at em
          split at em
          · split at em<;>cases em
          · rename_i k;exact absurd rfl k
        · rw [List.getElem?_set_ne (Ne.symm mi)] at em;exact em
      exact rep.sep j k o1 o2 b (f _ _ e1') (f _ _ e2') e3 e4
    · have ne:j≠i:=fun z=>by
        subst z
        rw [List.getElem?_set] at e1'
        split at e1'
        · split at e1'<;>cases e1'
        · rename_i k;exact absurd rfl k
      rw [List.getElem?_set_ne (Ne.symm ne)] at e1'
      exact rep.bor j o1 b e1' e2' (others b z).1
    · by_cases ne:j=i
      · subst ne
        rw [List.getElem?_set] at z
        split at z
        · split at z<;>cases z
        · rename_i k;exact absurd rfl k
      · rw [List.getElem?_set_ne (Ne.symm ne)] at z
        exact rep.nse j o1 z
    · have z:b≠a:=fun z=>w ⟨i,o,e,z ▸ e1⟩
      rw [upd_ne z];exact g1
    · by_cases ne:j=i
      · subst ne
        rw [List.getElem?_set] at z
        split at z
        · split at z<;>cases z
        · rename_i k;exact absurd rfl k
      · rw [List.getElem?_set_ne (Ne.symm ne)] at z
        exact ⟨o1,z⟩
  · exact q.elim
  · exact q.elim
  · rename_i dv no nm ng e
    obtain ⟨v,e1,w⟩:=rep.slots i _ e
    exact ⟨v,e1,hq v H G dv sl (.here rep (SlOk.val w (fun y C fs z=>nm y C fs z) fun y r z=>ng y r z) (fun o z=>no o z) fun a o z z2=>by subst z;subst z2;exact rep.bor i o a e e1) q⟩
  · exact q.elim
theorem aae {i:Nat} {n:Str} {pos:Pos} (h:PE X (.Name n pos) (tVar i)):DE X W (.Name n pos) (dSee i):=aaD h fun σ H R ⟨G,so,sl,Q,E,rep,q,hq,_⟩=>by
  unfold dSee at q
  split at q
  · rename_i o e
    obtain ⟨v,e1,w⟩:=rep.slots i _ e
    exact ⟨v,e1,hq v H G _ sl (.here rep w.see (fun _ z=>(nomatch z)) fun _ _ z=>(nomatch z)) q⟩
  · exact q.elim
  · exact q.elim
  · rename_i dv no nm ng e
    obtain ⟨v,e1,w⟩:=rep.slots i _ e
    exact ⟨v,e1,hq v H G dv sl (.here rep (SlOk.val w (fun y C fs z=>nm y C fs z) fun y r z=>ng y r z) (fun o z=>no o z) fun a o z z2=>by subst z;subst z2;exact rep.bor i o a e e1) q⟩
  · exact q.elim
end
def OpSem (K:PySem.W.Frag) (r:R2) (rd:DV->DV->(DV->Prop)->Prop):Prop:=∀ (G:Hp) (so:So) (H:Hp) (x y:V) (dx dy:DV) (Q:DV->Prop) (R:VK),HRep K G so H->VOk K G so H x dx->VOk K G so H y dy->rd dx dy Q->
  (∀ v H' G' dv,PostV K G so H v H' G' dv->Q dv->R v H')->r x y H R
def UnSem (K:PySem.W.Frag) (r:V->Hp->VK->Prop) (rd:DV->(DV->Prop)->Prop):Prop:=∀ (G:Hp) (so:So) (H:Hp) (x:V) (dx:DV) (Q:DV->Prop) (R:VK),HRep K G so H->VOk K G so H x dx->rd dx Q->
  (∀ v H' G' dv,PostV K G so H v H' G' dv->Q dv->R v H')->r x H R
def CallSem (K:PySem.W.Frag) (r:List V->Hp->VK->Prop) (rd:List DV->(DV->Prop)->Prop):Prop:=∀ (G:Hp) (so:So) (H:Hp) (xs:List V) (dxs:List DV) (Q:DV->Prop) (R:VK),HRep K G so H->VsOk K G so H xs dxs->rd dxs Q->
  (∀ v H' G' dv,PostV K G so H v H' G' dv->Q dv->R v H')->r xs H R
def dOp (rd:DV->DV->(DV->Prop)->Prop) (ta tb:TD):TD:=fun sl Q E=>ta sl (fun x s1=>tb s1 (fun y s2=>rd x y fun z=>Q z s2) E) E
def dUn (rd:DV->(DV->Prop)->Prop) (ta:TD):TD:=fun sl Q E=>ta sl (fun x s1=>rd x fun z=>Q z s1) E
def dCB (rd:List DV->(DV->Prop)->Prop) (ta:TDA):TD:=fun sl Q E=>ta sl (fun xs s1=>rd xs fun z=>Q z s1) E
def dNil:TDA:=fun sl Q _=>Q [] sl
def dCons (ta:TD) (tr:TDA):TDA:=fun sl Q E=>ta sl (fun x s1=>tr s1 (fun xs s2=>Q (pubV x::xs) s2) E) E
section
variable {K:PySem.W.Frag} {W:WX} {σ:L2.St} {H:Hp} {R:VK} {ta tb:TD} {X:Cx} {a b e:Expr} {pos:Pos}
theorem amP {r:R2} {rd:DV->DV->(DV->Prop)->Prop} (hr:OpSem K r rd) (h:up K W (dOp rd ta tb) σ H R):tOp r (up K W ta) (up K W tb) σ H R:=by
  obtain ⟨G,so,sl,Q,E,rep,q,hq,hx⟩:=h
  refine ⟨G,so,sl,_,E,rep,q,fun x H1 G1 dx s1 p1 h1=>?_,hx⟩
  refine ⟨G1,so,s1,_,E,p1.rep,h1,fun y H2 G2 dy s2 p2 h2=>?_,hx.step p1.toPost⟩
  exact hr G2 so H2 x y dx dy _ R p2.rep.h (p1.over p2.toPost) p2.val h2 fun v H' G' dv pv hz=>hq v H' G' dv s2 ((p1.toPost.trans p2.toPost).thenV pv) hz
theorem up_un {r:V->Hp->VK->Prop} {rd:DV->(DV->Prop)->Prop} (hr:UnSem K r rd) (h:up K W (dUn rd ta) σ H R):tUn r (up K W ta) σ H R:=by
  obtain ⟨G,so,sl,Q,E,rep,q,hq,hx⟩:=h
  refine ⟨G,so,sl,_,E,rep,q,fun x H1 G1 dx s1 p1 h1=>?_,hx⟩
  exact hr G1 so H1 x dx _ R p1.rep.h p1.val h1 fun v H' G' dv pv hz=>hq v H' G' dv s1 (p1.toPost.thenV pv) hz
theorem aod {r:List V->Hp->VK->Prop} {rd:List DV->(DV->Prop)->Prop} {t:TDA} (hr:CallSem K r rd) (h:up K W (dCB rd t) σ H R):tCB r (upA K W t) σ H R:=by
  obtain ⟨G,so,sl,Q,E,rep,q,hq,hx⟩:=h
  refine ⟨G,so,sl,_,E,rep,q,fun vs H1 G1 ds s1 p1 w h1=>?_,hx⟩
  exact hr G1 so H1 vs ds _ R p1.rep.h w h1 fun v H' G' dv pv hz=>hq v H' G' dv s1 (p1.thenV pv) hz
theorem aab:DA X W [] dNil:=akm pa_nil fun σ H R ⟨G,so,sl,Q,E,rep,q,hq,_⟩=>hq [] H G [] sl (.refl rep) .nil q
theorem aaa {es:List Expr} {tr:TDA} (ha:DE X W e ta) (hr:DA X W es tr) (hs:starEach (e::es) X.env=(false,eval e X.env)::starEach es X.env:=by rfl):DA X W (e::es) (dCons ta tr):=by
  refine akm (pa_cons ha hr hs) fun σ H R ⟨G,so,sl,Q,E,rep,q,hq,hx⟩=>?_
  refine ⟨G,so,sl,_,E,rep,q,fun x H1 G1 dx s1 p1 h1=>?_,hx⟩
  obtain ⟨G1',p1'⟩:=p1.pub
  refine ⟨G1',so,s1,_,E,p1'.rep,h1,fun vs H2 G2 ds s2 p2 w h2=>?_,hx.step p1'.toPost⟩
  exact hq (x::vs) H2 G2 (pubV dx::ds) s2 (p1'.toPost.trans p2) (.cons (p1'.over p2) (akj dx) w) h2
theorem ak4 {op:Operator} {r:R2} {rd:DV->DV->(DV->Prop)->Prop} (ho:OpR X (binaryOp op) r) (hr:OpSem X.K r rd) (ha:DE X W a ta) (hb:DE X W b tb):DE X W (.BinOp a op b pos) (dOp rd ta tb):=aaD (pe_op ho ha hb) fun _ _ _ h=>amP hr h
theorem acn {op:CmpOp} {r:R2} {rd:DV->DV->(DV->Prop)->Prop} (ho:OpR X (compareOp op) r) (hr:OpSem X.K r rd) (ha:DE X W a ta) (hb:DE X W b tb) (hm:behindInMarks op b=false):DE X W (.Compare a [op] [b] pos) (dOp rd ta tb):=aaD (pe_cmpR ho ha hb hm) fun _ _ _ h=>amP hr h
theorem aat {r:R2} {rd:DV->DV->(DV->Prop)->Prop} (ho:IxR X r) (hr:OpSem X.K r rd) (ha:DE X W a ta) (hb:DE X W b tb) (hs:PlainIx b):DE X W (.Subscript a b pos) (dOp rd ta tb):=aaD (pe_ix ho ha hb hs) fun _ _ _ h=>amP hr h
end
def keyD:Key->D
  | .inl i=>.int i
  | .inr z=>.str z
def keyPy:Key->PyData
  | .inl i=>.int i
  | .inr z=>.str z
mutual
def D.py:D->Option PyData
  | .non=>some .none
  | .bl b=>some (.bool b)
  | .int i=>some (.int i)
  | .str x=>some (.str x)
  | .lst ds=>(D.pyAll ds).map .list
  | .tup ds=>(D.pyAll ds).map .tuple
  | .ins _ _=>none
  | .dk _=>none
  | .dt _=>none
  | .any=>none
  | .raw _=>none
  | .kt ks=>some (.tuple (ks.map keyPy))
def D.pyAll:List D->Option (List PyData)
  | []=>some []
  | d::r=>match D.py d,D.pyAll r with
    | some p,some ps=>some (p::ps)
    | _,_=>none
end
def DV.dat:DV->Option D
  | .d x=>some x
  | .own o=>some (pubO o)
  | .bor o=>some (pubO o)
  | .see o=>some (pubO o)
  | .src=>none
  | .mu _ _ _=>none
  | .gh _ _=>none
def DV.items:DV->Option (List D)
  | .d (.lst ds)=>some ds
  | .own (.lst ds)=>some ds
  | .bor (.lst ds)=>some ds
  | .see (.lst ds)=>some ds
  | _=>none
section
variable {K:PySem.W.Frag} {G H:Hp} {so:So} {v x y:V} {dv dx dy:DV}
theorem ajU {H:Hp}:∀ ks:List Key,DpAll K H (ks.map kV) (ks.map keyPy)
  | []=>.nil
  | .inl i::r=>.cons (.int i) (ajU r)
  | .inr z::r=>.cons (.str z) (ajU r)
mutual
theorem DOk.dp (e:Ex G H):∀ (d:D) (v:V) (p:PyData),DOk K G v d->d.py=some p->Dp K H v p
  | .non,_,_,h,q=>by cases h;cases q;exact .non
  | .bl b,_,_,h,q=>by cases h;cases q;exact .bl b
  | .int i,_,_,h,q=>by cases h;cases q;exact .int i
  | .str x,_,_,h,q=>by cases h;cases q;exact .str x
  | .lst ds,_,p,h,q=>by
    unfold D.py at q
    cases z:D.pyAll ds with
    | none=>rw [z] at q;cases q
    | some ps=>
      rw [z] at q;cases q
      cases h with
      | lst g a=>exact .lst (SqL.of (e _ _ g)) (DAll.dp e ds _ ps a z)
  | .tup ds,_,p,h,q=>by
    unfold D.py at q
    cases z:D.pyAll ds with
    | none=>rw [z] at q;cases q
    | some ps=>
      rw [z] at q;cases q
      cases h with
      | tup g a=>exact .tup (ex_t e g) (DAll.dp e ds _ ps a z)
  | .ins _ _,_,_,_,q=>by cases q
  | .dk _,_,_,_,q=>by cases q
  | .dt _,_,_,_,q=>by cases q
  | .any,_,_,_,q=>by cases q
  | .raw _,_,_,_,q=>by cases q
  | .kt ks,_,_,h,q=>by
    unfold D.py at q
    cases q
    cases h with
    | kt g=>exact .tup (SqT.of (e _ _ g)) (ajU ks)
theorem DAll.dp (e:Ex G H):∀ (ds:List D) (vs:List V) (ps:List PyData),DAll K G vs ds->D.pyAll ds=some ps->DpAll K H vs ps
  | [],_,_,h,q=>by cases h;cases q;exact .nil
  | d::r,_,ps,h,q=>by
    cases h with
    | cons h1 h2=>
      unfold D.pyAll at q
      cases z1:D.py d with
      | none=>rw [z1] at q;cases q
      | some p=>
        cases z2:D.pyAll r with
        | none=>rw [z1,z2] at q;cases q
        | some qs=>
          rw [z1,z2] at q;cases q
          exact .cons (DOk.dp e d _ p h1 z1) (DAll.dp e r _ qs h2 z2)
end
theorem VOk.dp {d:D} {p:PyData} (h:HRep K G so H) (w:VOk K G so H v dv) (e:dv.dat=some d) (q:d.py=some p):Dp K H v p:=by
  cases dv with
  | d z=>cases e;exact DOk.dp h.ex _ _ _ w q
  | src=>cases e
  | mu _ _ _=>cases e
  | gh _ _=>cases e
  | own o=>
    cases e
    obtain ⟨a,rfl,_,_,ok⟩:=w
    cases o with
    | lst ds=>
      obtain ⟨vs,e1,al⟩:=ok
      unfold pubO D.py at q
      cases z:D.pyAll ds with
      | none=>rw [z] at q;cases q
      | some ps=>rw [z] at q;cases q;exact .lst (SqL.of e1) (DAll.dp h.ex ds _ ps al z)
    | ins x C fs=>unfold pubO D.py at q;cases q
    | dk _=>unfold pubO D.py at q;cases q
    | dt _=>unfold pubO D.py at q;cases q
  | bor o=>
    cases e
    obtain ⟨a,rfl,_,ok⟩:=w
    cases o with
    | lst ds=>
      obtain ⟨vs,e1,al⟩:=ok
      unfold pubO D.py at q
      cases z:D.pyAll ds with
      | none=>rw [z] at q;cases q
      | some ps=>rw [z] at q;cases q;exact .lst (SqL.of e1) (DAll.dp h.ex ds _ ps al z)
    | ins x C fs=>unfold pubO D.py at q;cases q
    | dk _=>unfold pubO D.py at q;cases q
    | dt _=>unfold pubO D.py at q;cases q
  | see o=>
    cases e
    obtain ⟨a,rfl,_,ok⟩:=w
    cases o with
    | lst ds=>
      obtain ⟨vs,e1,al⟩:=ok
      unfold pubO D.py at q
      cases z:D.pyAll ds with
      | none=>rw [z] at q;cases q
      | some ps=>rw [z] at q;cases q;exact .lst (SqL.of e1) (DAll.dp h.ex ds _ ps al z)
    | ins x C fs=>unfold pubO D.py at q;cases q
    | dk _=>unfold pubO D.py at q;cases q
    | dt _=>unfold pubO D.py at q;cases q
theorem VOk.list {ds:List D} (h:HRep K G so H) (w:VOk K G so H v dv) (e:dv.items=some ds):∃ a vs,v=.ref a/\H a=some (.lst vs)/\DAll K G vs ds:=by
  unfold DV.items at e
  split at e
  · cases e
    cases w with
    | lst g a=>exact ⟨_,_,rfl,h.ex _ _ g,a⟩
  · cases e
    obtain ⟨a,rfl,_,_,vs,e1,al⟩:=w
    exact ⟨a,vs,rfl,e1,al⟩
  · cases e
    obtain ⟨a,rfl,_,vs,e1,al⟩:=w
    exact ⟨a,vs,rfl,e1,al⟩
  · cases e
    obtain ⟨a,rfl,_,vs,e1,al⟩:=w
    exact ⟨a,vs,rfl,e1,al⟩
  · cases e
theorem VOk.tup {ds:List D} (h:HRep K G so H) (w:VOk K G so H v (.d (.tup ds))):∃ a vs,v=.ref a/\SqT K H a vs/\DAll K G vs ds:=by
  cases w with
  | tup g a=>exact ⟨_,_,rfl,ex_t h.ex g,a⟩
end
abbrev szl:Nat:=16777216
theorem acM:szl=sizeLine:=by rw [sizeLine_eq]
@[irreducible] def addR:DV->DV->(DV->Prop)->Prop
  | .d (.int i),.d (.int j),Q=>Q (.d (.int (i + j)))
  | .d (.str a),.d (.str b),Q=>a.length + b.length<=szl/\Q (.d (.str (a++b)))
  | .d (.tup a),.d (.tup b),Q=>a.length + b.length<=szl/\Q (.d (.tup (a++b)))
  | x,y,Q=>match x.items,y.items with
    | some a,some b=>a.length + b.length<=szl/\Q (.own (.lst (a++b)))
    | _,_=>False
@[irreducible] def intR (C:Int->Int->Prop) (f:Int->Int->D):DV->DV->(DV->Prop)->Prop
  | .d (.int i),.d (.int j),Q=>C i j/\Q (.d (f i j))
  | _,_,_=>False
@[irreducible] def ame (f:Int->Int->D):DV->DV->(DV->Prop)->Prop
  | .d (.int i),.d (.int j),Q=>Q (.d (f i j))
  | _,_,_=>False
section
variable {K:PySem.W.Frag} {X:Cx} {W:WX} {a b:Expr} {ta tb:TD} {pos:Pos}
theorem ahU {C:Int->Int->Prop} {f:Int->Int->D} {g:Int->Int->V} (hg:∀ G i j,DOk K G (g i j) (f i j)):OpSem K (rI C g) (intR C f):=by
  intro G so H x y dx dy Q R h wx wy q k
  unfold intR at q
  split at q
  · cases wx;cases wy;exact ⟨_,_,rfl,rfl,q.1,k _ H G _ (.dat h (hg G _ _)) q.2⟩
  · exact q.elim
theorem aa6 {f:Int->Int->D} {g:Int->Int->V} (hg:∀ G i j,DOk K G (g i j) (f i j)):OpSem K (rI0 g) (ame f):=by
  intro G so H x y dx dy Q R h wx wy q k
  unfold ame at q
  split at q
  · cases wx;cases wy;exact ⟨_,_,rfl,rfl,k _ H G _ (.dat h (hg G _ _)) q⟩
  · exact q.elim
def apL:R2:=fun x y H Q=>∃ i j,x=.str i/\y=.str j/\i.length + j.length<=sizeLine/\Q (.str (i++j)) H
def rAddAll (K:PySem.W.Frag):R2:=fun x y H Q=>(rI0 fun i j=>.int (i + j)) x y H Q\/(apL x y H Q\/(rCatA K x y H Q\/rCat x y H Q))
theorem alF:OpR X (binaryOp .Add) (rAddAll X.K):=OpR.or op_add (OpR.or op_add_str (OpR.or op_catA op_cat))
theorem aom:OpSem K (rAddAll K) addR:=by
  intro G so H x y dx dy Q R h wx wy q k
  unfold addR at q
  split at q
  · cases wx;cases wy;exact .inl ⟨_,_,rfl,rfl,k _ H G _ (.dat h (.int _)) q⟩
  · cases wx;cases wy;exact .inr (.inl ⟨_,_,rfl,rfl,by rw [<- acM];exact q.1,k _ H G _ (.dat h (.str _)) q.2⟩)
  · obtain ⟨a,vs,rfl,g1,a1⟩:=VOk.tup h wx
    obtain ⟨b,ws,rfl,g2,a2⟩:=VOk.tup h wy
    refine .inr (.inr (.inl ⟨a,b,vs,ws,rfl,rfl,g1,g2,?_,fun z=>?_,fun _ z=>?_,fun _ _ p n=>?_⟩))
    · rw [a1.length,a2.length,<- acM];exact q.1
    · subst z;cases a1;exact k _ H G _ (.dat h (by have w:DOk K G _ _:=wy;simpa using w)) q.2
    · subst z;cases a2;exact k _ H G _ (.dat h (by have w:DOk K G _ _:=wx;simpa using w)) q.2
    · exact k _ _ _ _ (.tuple h n (a1.append a2)) q.2
  · split at q
    · rename_i e1 e2
      obtain ⟨a,vs,rfl,g1,a1⟩:=VOk.list h wx e1
      obtain ⟨b,ws,rfl,g2,a2⟩:=VOk.list h wy e2
      refine .inr (.inr (.inr ⟨a,b,vs,ws,rfl,rfl,g1,g2,?_,fun p n=>?_⟩))
      · rw [a1.length,a2.length,<- acM];exact q.1
      · exact k _ _ _ _ (.list h n (a1.append a2)) q.2
    · exact q.elim
theorem adb (ha:DE X W a ta) (hb:DE X W b tb):DE X W (.BinOp a .Add b pos) (dOp addR ta tb):=ak4 alF aom ha hb
theorem aqq (ha:DE X W a ta) (hb:DE X W b tb):DE X W (.BinOp a .Sub b pos) (dOp (ame fun i j=>.int (i - j)) ta tb):=ak4 op_sub (aa6 fun _ _ _=>.int _) ha hb
theorem aqt (ha:DE X W a ta) (hb:DE X W b tb):DE X W (.BinOp a .Mod b pos) (dOp (intR (fun _ j=>0 < j) fun i j=>.int (i % j)) ta tb):=ak4 op_mod (ahU fun _ _ _=>.int _) ha hb
theorem aip (ha:DE X W a ta) (hb:DE X W b tb):DE X W (.BinOp a .FloorDiv b pos) (dOp (intR CDivW fun i j=>.int (i / j)) ta tb):=ak4 op_fdivW (ahU fun _ _ _=>.int _) ha hb
theorem aqr (ha:DE X W a ta) (hb:DE X W b tb):DE X W (.BinOp a .Pow b pos) (dOp (intR CPow fun i j=>.int (i ^ j.toNat)) ta tb):=ak4 op_pow (ahU fun _ _ _=>.int _) ha hb
@[irreducible] def mulR:DV->DV->(DV->Prop)->Prop
  | .d (.int i),.d (.int j),Q=>CMulW i j/\Q (.d (.int (i * j)))
  | x,.d (.int k),Q=>match x.items with
    | some a=>-(2 ^ 63)<=k/\k < 2 ^ 63/\a.length * k.toNat<=szl/\Q (.own (.lst (List.replicate k.toNat a).flatten))
    | _=>False
  | _,_,_=>False
@[irreducible] def eqDeep (neg:Bool):DV->DV->(DV->Prop)->Prop:=fun x y Q=>match x.dat,y.dat with
  | some a,some b=>match a.py,b.py with
    | some p,some q=>SeqAt.shaped p=true/\SeqAt.shaped q=true/\Q (.d (.bl (if neg then !PyData.eqv p q else PyData.eqv p q)))
    | _,_=>False
  | _,_=>False
@[irreducible] def eqR (neg:Bool):DV->DV->(DV->Prop)->Prop
  | .d (.int i),.d (.int j),Q=>Q (.d (.bl (if neg then !decide (i=j) else decide (i=j))))
  | .d (.str i),.d (.str j),Q=>Q (.d (.bl (if neg then !decide (i=j) else decide (i=j))))
  | .d (.bl i),.d (.bl j),Q=>Q (.d (.bl (if neg then !decide (i=j) else decide (i=j))))
  | x,y,Q=>eqDeep neg x y Q
def rEqAll (K:PySem.W.Frag):R2:=fun x y H Q=>rEq x y H Q\/rEqD K x y H Q
def rNeAll (K:PySem.W.Frag):R2:=fun x y H Q=>rNe x y H Q\/rNeD K x y H Q
theorem abP (hu:X.A.units + 64 < cLine):OpR X (compareOp .Eq) (rEqAll X.K):=OpR.or op_eq (op_eqD hu)
theorem aeC (hu:X.A.units + 64 < cLine):OpR X (compareOp .NotEq) (rNeAll X.K):=OpR.or op_ne (op_neD hu)
theorem decI {i j:Int}:decide (V.int i=V.int j)=decide (i=j):=by
  by_cases h:i=j
  · subst h;simp
  · simp [h]
theorem decS {i j:Str}:decide (V.str i=V.str j)=decide (i=j):=by
  by_cases h:i=j
  · subst h;simp
  · simp [h]
theorem decB {i j:Bool}:decide (V.bl i=V.bl j)=decide (i=j):=by
  by_cases h:i=j
  · subst h;simp
  · simp [h]
theorem adn:OpSem K (rEqAll K) (eqR false):=by
  intro G so H x y dx dy Q R h wx wy q k
  unfold eqR at q
  split at q
  · cases wx;cases wy
    exact .inl ⟨rfl,by rw [decI];exact k _ H G _ (.dat h (.bl _)) q⟩
  · cases wx;cases wy
    exact .inl ⟨rfl,by rw [decS];exact k _ H G _ (.dat h (.bl _)) q⟩
  · cases wx;cases wy
    exact .inl ⟨rfl,by rw [decB];exact k _ H G _ (.dat h (.bl _)) q⟩
  · unfold eqDeep at q
    split at q
    · rename_i d e e1 e2
      split at q
      · rename_i p p' e3 e4
        exact .inr ⟨p,p',wx.dp h e1 e3,wy.dp h e2 e4,q.1,q.2.1,k _ H G _ (.dat h (.bl _)) q.2.2⟩
      · exact q.elim
    · exact q.elim
theorem ahB:OpSem K (rNeAll K) (eqR true):=by
  intro G so H x y dx dy Q R h wx wy q k
  unfold eqR at q
  split at q
  · cases wx;cases wy
    exact .inl ⟨rfl,by rw [decI];exact k _ H G _ (.dat h (.bl _)) q⟩
  · cases wx;cases wy
    exact .inl ⟨rfl,by rw [decS];exact k _ H G _ (.dat h (.bl _)) q⟩
  · cases wx;cases wy
    exact .inl ⟨rfl,by rw [decB];exact k _ H G _ (.dat h (.bl _)) q⟩
  · unfold eqDeep at q
    split at q
    · rename_i d e e1 e2
      split at q
      · rename_i p p' e3 e4
        exact .inr ⟨p,p',wx.dp h e1 e3,wy.dp h e2 e4,q.1,q.2.1,k _ H G _ (.dat h (.bl _)) q.2.2⟩
      · exact q.elim
    · exact q.elim
end
@[irreducible] def Br (b:Bool) (A B:Prop):Prop:=(b=true->A)/\(b=false->B)
theorem brt {A B:Prop} (h:Br true A B):A:=by
  unfold Br at h;exact h.1 rfl
theorem brf {A B:Prop} (h:Br false A B):B:=by
  unfold Br at h;exact h.2 rfl
theorem br {b:Bool} {A B:Prop} (h1:b=true->A) (h2:b=false->B):Br b A B:=by
  unfold Br;exact ⟨h1,h2⟩
theorem brT {A B:Prop} (h:A):Br true A B:=br (fun _=>h) fun z=>(nomatch z)
theorem brF {A B:Prop} (h:B):Br false A B:=br (fun z=>(nomatch z)) fun _=>h
structure PostS (K:PySem.W.Frag) (G:Hp) (so:So) (σ:L2.St) (H:Hp) (sl:DSt) (σ':L2.St) (H' G':Hp) (sl':DSt):Prop where
  ex:Ex G G'
  rep:Rep K G' so σ' H' sl'
  keep:∀ a o,H a=some o->so.Nt a->¬ Own sl σ a->H' a=some o
  frm:∀ a,H a≠none->G a=none->so.Nt a->¬ Own sl σ a->G' a=none
  sub:∀ a,H a≠none->so.Nt a->¬ Own sl σ a->¬ Own sl' σ' a
  ln:σ'.length=σ.length
structure PostR (K:PySem.W.Frag) (G:Hp) (so:So) (σ:L2.St) (H:Hp) (sl:DSt) (v:V) (H' G':Hp) (dv:DV) (sl':DSt):Prop where
  ex:Ex G G'
  hrep:HRep K G' so H'
  keep:∀ a o,H a=some o->so.Nt a->¬ Own sl σ a->H' a=some o
  frm:∀ a,H a≠none->G a=none->so.Nt a->¬ Own sl σ a->G' a=none
  val:VOk K G' so H' v dv
  new:∀ a o,dv=.own o->v=.ref a->H a=none\/Own sl σ a
  mus:∀ (i:Nat) (x C:Addr) (fs:List (Str × D)),sl'[i]?=some (some (.mu x C fs))->∃ dx vs,H' x=some (.ins C dx vs)/\FAll K G' vs fs
def XOkS (K:PySem.W.Frag) (W:WX) (G:Hp) (so:So) (σ:L2.St) (H:Hp) (sl:DSt) (E:XP):Prop:=
  ∀ cls d σ' H' G' fs sl',PostS K G so σ H sl σ' H' G' sl'->XdOk K G' H' d fs->E cls fs sl'->W cls d σ' H'
section
variable {K:PySem.W.Frag} {W:WX} {G G1 G2:Hp} {so:So} {σ σ1 σ2:L2.St} {H H1 H2:Hp} {sl s1 s2:DSt} {v x y:V} {dv dx dy:DV} {E:XP}
theorem Rep.mus (r:Rep K G so σ H sl) (i:Nat) (x C:Addr) (fs:List (Str × D)) (e:sl[i]?=some (some (.mu x C fs))):∃ dx vs,H x=some (.ins C dx vs)/\FAll K G vs fs:=by
  obtain ⟨v,_,w⟩:=r.slots i _ e
  exact w.2.2
theorem Post.s (p:Post K G so σ H sl H1 G1 s1):PostS K G so σ H sl σ H1 G1 s1:=⟨p.ex,p.rep,fun a o e s _=>p.keep a o e s,p.frm,fun a _ _ w z=>w (p.sub a z),rfl⟩
theorem PostS.refl (r:Rep K G so σ H sl):PostS K G so σ H sl σ H G sl:=(Post.refl r).s
theorem PostS.trans (a:PostS K G so σ H sl σ1 H1 G1 s1) (b:PostS K G1 so σ1 H1 s1 σ2 H2 G2 s2):PostS K G so σ H sl σ2 H2 G2 s2:=
  ⟨a.ex.trans b.ex,b.rep,fun c o e s w=>b.keep c o (a.keep c o e s w) s (a.sub c (by rw [e];simp) s w),fun c n g s w=>by
    obtain ⟨o,e⟩:=Option.ne_none_iff_exists'.mp n
    exact b.frm c (by rw [a.keep c o e s w];simp) (a.frm c n g s w) s (a.sub c n s w),fun c n s w=>by
    obtain ⟨o,e⟩:=Option.ne_none_iff_exists'.mp n
    exact b.sub c (by rw [a.keep c o e s w];simp) s (a.sub c n s w),b.ln.trans a.ln⟩
theorem PostS.back (a:PostS K G so σ H sl σ1 H1 G1 s1) {c:Addr} (n:H1 c=none\/Own s1 σ1 c):H c=none\/Own sl σ c:=by
  by_cases w:Own sl σ c
  · exact .inr w
  · refine .inl ?_
    cases z:H c with
    | none=>rfl
    | some u=>
      by_cases s:so.Vol c
      · rcases n with n | n
        · exact absurd s (a.rep.h.there n)
        · exact absurd s (a.rep.nown n).2.2
      · rcases n with n | n
        · rw [a.keep c u z s w] at n;cases n
        · exact absurd n (a.sub c (by rw [z];simp) s w)
theorem PostS.thenE (a:PostS K G so σ H sl σ1 H1 G1 s1) (b:PostE K G1 so σ1 H1 s1 v H2 G2 dv s2):PostR K G so σ H sl v H2 G2 dv s2:=by
  have t:=a.trans b.toPost.s
  exact ⟨t.ex,t.rep.h,t.keep,t.frm,b.val,fun c o e q=>a.back (b.new c o e q),b.rep.mus⟩
theorem PostS.thenR (a:PostS K G so σ H sl σ1 H1 G1 s1) (b:PostR K G1 so σ1 H1 s1 v H2 G2 dv s2):PostR K G so σ H sl v H2 G2 dv s2:=
  ⟨a.ex.trans b.ex,b.hrep,fun c o e s w=>b.keep c o (a.keep c o e s w) s (a.sub c (by rw [e];simp) s w),fun c n g s w=>by
    obtain ⟨o,e⟩:=Option.ne_none_iff_exists'.mp n
    exact b.frm c (by rw [a.keep c o e s w];simp) (a.frm c n g s w) s (a.sub c n s w),b.val,fun c o e q=>a.back (b.new c o e q),b.mus⟩
theorem XOkS.ex (h:XOkS K W G so σ H sl E):XOk K W G so σ H sl E:=fun cls d H' G' fs sl' q a b=>h cls d σ H' G' fs sl' q.s a b
theorem XOkS.step (h:XOkS K W G so σ H sl E) (p:PostS K G so σ H sl σ1 H1 G1 s1):XOkS K W G1 so σ1 H1 s1 E:=fun cls d σ' H' G' fs sl' q a b=>h cls d σ' H' G' fs sl' (p.trans q) a b
end
structure EOk (K:PySem.W.Frag) (W:WX) (G:Hp) (so:So) (σ:L2.St) (H:Hp) (sl:DSt) (E:EndsD) (D:Ends):Prop where
  nx:∀ σ' H' G' sl',PostS K G so σ H sl σ' H' G' sl'->E.nx sl'->D.nx σ' H'
  bk:∀ σ' H' G' sl',PostS K G so σ H sl σ' H' G' sl'->E.bk sl'->D.bk σ' H'
  ct:∀ σ' H' G' sl',PostS K G so σ H sl σ' H' G' sl'->E.ct sl'->D.ct σ' H'
  rt:∀ v H' G' dv sl',PostR K G so σ H sl v H' G' dv sl'->E.rt dv sl'->D.rt v H'
  xc:XOkS K W G so σ H sl E.xc
theorem EOk.step {K:PySem.W.Frag} {W:WX} {G G1:Hp} {so:So} {σ σ1:L2.St} {H H1:Hp} {sl s1:DSt} {E:EndsD} {D:Ends} (h:EOk K W G so σ H sl E D) (p:PostS K G so σ H sl σ1 H1 G1 s1):EOk K W G1 so σ1 H1 s1 E D:=
  ⟨fun a b c d q=>h.nx a b c d (p.trans q),fun a b c d q=>h.bk a b c d (p.trans q),fun a b c d q=>h.ct a b c d (p.trans q),fun a b c d z q=>h.rt a b c d z (p.thenR q),h.xc.step p⟩
def upS (K:PySem.W.Frag) (W:WX) (t:TDS):TS:=fun D σ H=>∃ G so sl E,Rep K G so σ H sl/\t E sl/\EOk K W G so σ H sl E D
def DS (X:Cx) (W:WX) (st:Stmt) (t:TDS):Prop:=PS X st (upS X.K W t)
def DSs (X:Cx) (W:WX) (sts:List Stmt) (t:TDS):Prop:=PSs X sts (upS X.K W t)
def dNext:TDS:=fun E sl=>E.nx sl
def dSeq (t u:TDS):TDS:=fun E sl=>t { E with nx:=u E } sl
def dSet (te:TD) (i:Nat):TDS:=fun E sl=>te sl (fun x s1=>match x with
  | .see _=>False
  | y=>E.nx (s1.set i (some y))) E.xc
def dRet (te:TD):TDS:=fun E sl=>te sl (fun x s1=>E.rt x s1) E.xc
def dIf (c:TDT) (t u:TDS):TDS:=fun E sl=>c sl (fun b s1=>Br b (t E s1) (u E s1)) E.xc
section
variable {X:Cx} {W:WX} {st:Stmt} {rest body orelse:List Stmt} {t u:TDS} {e c a b:Expr} {te ta tb:TD} {tc td:TDT} {pos:Pos}
theorem ack:DSs X W [] dNext:=afz pss_nil fun D σ H ⟨G,so,sl,E,rep,q,ok⟩=>ok.nx σ H G sl (.refl rep) q
theorem aak (h1:DS X W st t) (h2:DSs X W rest u):DSs X W (st::rest) (dSeq t u):=afz (pss_cons h1 h2) fun D σ H ⟨G,so,sl,E,rep,q,ok⟩=>
  ⟨G,so,sl,_,rep,q,⟨fun σ1 H1 G1 s1 p q1=>⟨G1,so,s1,E,p.rep,q1,ok.step p⟩,ok.bk,ok.ct,ok.rt,ok.xc⟩⟩
theorem aaj (h1:DS X W st t):DSs X W [st] t:=pss_one h1
theorem aan (h:DE X W e te):DS X W (.Return (some e) pos) (dRet te):=adp (ps_ret h) fun D σ H ⟨G,so,sl,E,rep,q,ok⟩=>
  ⟨G,so,sl,_,E.xc,rep,q,fun v H1 G1 dv s1 p q1=>ok.rt v H1 G1 dv s1 ((PostS.refl rep).thenE p) q1,ok.xc.ex⟩
theorem adt (hc:DT X W c tc) (h1:DSs X W body t) (h2:DSs X W orelse u):DS X W (.If c body orelse pos) (dIf tc t u):=adp (ps_if hc h1 h2) fun D σ H ⟨G,so,sl,E,rep,q,ok⟩=>by
  refine ⟨G,so,sl,_,E.xc,rep,q,fun k H1 G1 s1 p q1=>?_,ok.xc.ex⟩
  cases k with
  | true=>rw [if_pos rfl];exact ⟨G1,so,s1,E,p.rep,(brt q1),ok.step p.s⟩
  | false=>rw [if_neg Bool.false_ne_true];exact ⟨G1,so,s1,E,p.rep,(brf q1),ok.step p.s⟩
end
section
variable {K:PySem.W.Frag} {W:WX} {G G1 G2:Hp} {so:So} {σ σ1 σ2:L2.St} {H H1 H2:Hp} {sl s1 s2:DSt} {v x y:V} {dv dx dy:DV} {E:XP}
theorem get_set {α:Type} {l:List α} {i j:Nat} {x y:α} (h:(l.set i x)[j]?=some y):(j=i/\y=x)\/(j≠i/\l[j]?=some y):=by
  by_cases ji:j=i
  · subst ji
    rw [List.getElem?_set] at h
    split at h
    · split at h
      · cases h;exact .inl ⟨rfl,rfl⟩
      · cases h
    · rename_i k;exact absurd rfl k
  · rw [List.getElem?_set_ne (Ne.symm ji)] at h
    exact .inr ⟨ji,h⟩
theorem akc {i:Nat} (hi:i < σ.length) (ns:∀ o,dv≠.see o) (rep:Rep K G so σ H sl) (w:VOk K G so H v dv) (n:∀ a o,dv=.own o\/dv=.bor o->v=.ref a->¬ Own sl σ a) (nb:∀ (a:Addr) (o:OO) (i':Nat) (o':OO),dv=.own o->v=.ref a->sl[i']?=some (some (.bor o'))->σ[i']?=some (some (.ref a))->False) (new:∀ a o,dv=.own o->v=.ref a->H1 a=none\/Own s1 σ1 a)
    (sub:∀ a,H1 a≠none->so.Nt a->¬ Own s1 σ1 a->¬ Own sl σ a) :
    Rep K G so (σ.set i (some v)) H (sl.set i (some dv))/\∀ a,H1 a≠none->so.Nt a->¬ Own s1 σ1 a->¬ Own (sl.set i (some dv)) (σ.set i (some v)) a:=by
  have hl:i < sl.length:=by rw [rep.len];exact hi
  have self:(σ.set i (some v))[i]?=some (some v):=List.getElem?_set_self hi
  have other:∀ {j:Nat},j≠i->(σ.set i (some v))[j]?=σ[j]?:=fun ne=>List.getElem?_set_ne (Ne.symm ne)
  refine ⟨⟨rep.h,by rw [List.length_set,List.length_set];exact rep.len,fun j d q=>?_,fun j k o o' a q1 q2 q3 q4=>?_,fun j o a q1 q2 z=>?_,fun j o z=>?_⟩,fun a n1 sa w1 z=>?_⟩
  · rcases get_set q with ⟨rfl,e⟩ | ⟨ne,e⟩
    · cases e;exact ⟨v,self,VOk.slot w⟩
    · obtain ⟨w',e1,e2⟩:=rep.slots j d e
      exact ⟨w',by rw [other ne];exact e1,e2⟩
  · rcases get_set q1 with ⟨rfl,e1⟩ | ⟨ne1,e1⟩
    · cases e1
      rw [self] at q3;cases q3
      rcases get_set q2 with ⟨rfl,e2⟩ | ⟨ne2,e2⟩
      · rfl
      · rw [other ne2] at q4
        exact absurd ⟨k,o',e2,q4⟩ (n a o (.inl rfl) rfl)
    · rw [other ne1] at q3
      rcases get_set q2 with ⟨rfl,e2⟩ | ⟨ne2,e2⟩
      · cases e2
        rw [self] at q4;cases q4
        exact absurd ⟨j,o,e1,q3⟩ (n a o' (.inl rfl) rfl)
      · rw [other ne2] at q4
        exact rep.sep j k o o' a e1 e2 q3 q4
  · obtain ⟨m,o',e1,e2⟩:=z
    rcases get_set q1 with ⟨rfl,f1⟩ | ⟨ne1,f1⟩
    · cases f1
      rw [self] at q2;cases q2
      rcases get_set e1 with ⟨rfl,f2⟩ | ⟨ne2,f2⟩
      · cases f2
      · rw [other ne2] at e2
        exact n a o (.inr rfl) rfl ⟨m,o',f2,e2⟩
    · rw [other ne1] at q2
      rcases get_set e1 with ⟨rfl,f2⟩ | ⟨ne2,f2⟩
      · cases f2
        rw [self] at e2;cases e2
        exact nb a o' j o rfl rfl f1 q2
      · rw [other ne2] at e2
        exact rep.bor j o a f1 q2 ⟨m,o',f2,e2⟩
  · rcases get_set z with ⟨rfl,e⟩ | ⟨ne,e⟩
    · cases e;exact ns o rfl
    · exact rep.nse j o e
  · obtain ⟨j,o,e1,e2⟩:=z
    rcases get_set e1 with ⟨rfl,e⟩ | ⟨ne,e⟩
    · cases e
      rw [self] at e2;cases e2
      rcases new a o rfl rfl with k | k
      · exact n1 k
      · exact w1 k
    · rw [other ne] at e2
      exact sub a n1 sa w1 ⟨j,o,e,e2⟩
theorem PostE.set {i:Nat} (hi:i < σ.length) (ns:∀ o,dv≠.see o) (p:PostE K G so σ H sl v H1 G1 dv s1):PostS K G so σ H sl (σ.set i (some v)) H1 G1 (s1.set i (some dv)):=by
  have bf:∀ (a:Addr) (o:OO) (i':Nat) (o':OO),dv=.own o->v=.ref a->s1[i']?=some (some (.bor o'))->σ[i']?=some (some (.ref a))->False:=fun a o i' o' e q e1 e2=>p.nbs a o i' o' e q e1 e2
  obtain ⟨r,s⟩:=akc (H1:=H) (s1:=sl) (σ1:=σ) hi ns p.rep p.val (fun a o e q=>p.sepv a o e q) bf (fun a o e q=>p.new a o e q) fun a _ _ w z=>w (p.sub a z)
  exact ⟨p.ex,r,fun a o e sa _=>p.keep a o e sa,p.frm,s,List.length_set⟩
end
section
variable {X:Cx} {W:WX} {e:Expr} {te:TD} {pos pos':Pos} {i:Nat} {x:Str}
theorem anF {K:PySem.W.Frag} {D:Ends} {σ:L2.St} {H:Hp} (hi:∀ {G so sl},Rep K G so σ H sl->i < σ.length) (h:upS K W (dSet te i) D σ H):tAsg (up K W te) (gName i) D σ H:=by
  obtain ⟨G,so,sl,E,rep,q,ok⟩:=h
  refine ⟨G,so,sl,_,E.xc,rep,q,fun v H1 G1 dv s1 p q1=>?_,ok.xc.ex⟩
  split at q1
  · exact q1.elim
  · rename_i ns
    exact ok.nx _ H1 G1 _ (p.set (hi rep) fun o z=>ns o z) q1
theorem aiZ {st:Stmt} {t t':TS} (h:PS X st t) (f:∀ D σ H,σ.length=X.N.length->t' D σ H->t D σ H):PS X st t':=⟨fun pins s σ H Q I q=>h.run pins s σ H Q I (f _ _ _ I.len q)⟩
theorem abV (hN:X.N.Nodup) (hi:X.N[i]?=some x) (hx:Loc X.env.scope x) (he:DE X W e te) (hs:swapsWith e (some (.Name x pos')) pos.line X.env=pure false:=by rfl) (hf:X.fn x=true\/X.env.scope.names.lookup x=some .local:=by first | exact .inl rfl | exact .inr rfl | assumption) :
    DS X W (.Assign [.Name x pos'] e pos) (dSet te i):=aiZ (ps_set hN hi hx he hs hf) fun D σ H hl h=>anF (fun _=>by rw [hl];exact (List.getElem?_eq_some_iff.mp hi).1) h
end
@[irreducible] def truR:DV->(Bool->Prop)->Prop
  | .d (.bl b),Q=>Q b
  | .d .non,Q=>Q false
  | .d (.int i),Q=>Q (i != 0)
  | .d (.str x),Q=>x.length<=szl/\Q ((x.length:Int) != 0)
  | .d (.tup ds),Q=>Q (!ds.isEmpty)
  | v,Q=>match v.items with
    | some ds=>Q (!ds.isEmpty)
    | none=>False
def dTru (te:TD):TDT:=fun sl Q E=>te sl (fun x s1=>truR x fun b=>Q b s1) E
def dTest (te:TD):TDT:=fun sl Q E=>te sl (fun x s1=>match x with
  | .d (.bl b)=>Q b s1
  | _=>False) E
def dAnd (t u:TDT):TDT:=fun sl Q E=>t sl (fun b s1=>Br b (u s1 Q E) (Q false s1)) E
def dOr (t u:TDT):TDT:=fun sl Q E=>t sl (fun b s1=>Br b (Q true s1) (u s1 Q E)) E
def dNot (t:TDT):TDT:=fun sl Q E=>t sl (fun b s1=>Q (!b) s1) E
def dIfE (t:TDT) (ta tb:TD):TD:=fun sl Q E=>t sl (fun b s1=>Br b (ta s1 Q E) (tb s1 Q E)) E
def dAndV (ta tb:TD):TD:=fun sl Q E=>ta sl (fun x s1=>match x with
  | .d (.bl b)=>Br b (tb s1 Q E) (Q (.d (.bl false)) s1)
  | _=>False) E
def dOrV (ta tb:TD):TD:=fun sl Q E=>ta sl (fun x s1=>match x with
  | .d (.bl b)=>Br b (Q (.d (.bl true)) s1) (tb s1 Q E)
  | _=>False) E
def dNotV (ta:TD):TD:=fun sl Q E=>ta sl (fun x s1=>truR x fun b=>Q (.d (.bl (!b))) s1) E
theorem agO {K:PySem.W.Frag} {G:Hp} {vs:List V} {ds:List D} (a:DAll K G vs ds):vs.isEmpty=ds.isEmpty:=by
  cases a<;>rfl
theorem anJ {K:PySem.W.Frag} {G:Hp} {so:So} {H:Hp} {v:V} {dv:DV} {Q:Bool->Prop} (h:HRep K G so H) (w:VOk K G so H v dv) (q:truR dv Q):∃ k,TruV K v H k/\Q k:=by
  unfold truR at q
  split at q
  · cases w;exact ⟨_,rfl,q⟩
  · cases w;exact ⟨_,rfl,q⟩
  · cases w;exact ⟨_,rfl,q⟩
  · cases w;exact ⟨_,⟨by rw [<- acM];exact q.1,rfl⟩,q.2⟩
  · obtain ⟨a,vs,rfl,g1,a1⟩:=VOk.tup h w
    exact ⟨_,.inr (.inl ⟨vs,g1,rfl⟩),by rw [agO a1];exact q⟩
  · split at q
    · rename_i e
      obtain ⟨a,vs,rfl,g1,a1⟩:=VOk.list h w e
      exact ⟨_,.inl ⟨vs,SqL.of g1,rfl⟩,by rw [agO a1];exact q⟩
    · exact q.elim
section
variable {X:Cx} {W:WX} {e c a b:Expr} {rest:List Expr} {te ta tb tc:TD} {t u:TDT} {pos:Pos} {K:PySem.W.Frag} {σ:L2.St} {H:Hp}
theorem ada (h:DE X W e te) (he:∀ whole,isTrue e X.env whole=(do let v <- whole;standAt e.pos;holding [v] (truthy v)):=by intro _;rfl):DT X W e (dTru te):=
  akk (pt_truth h he) fun σ H R ⟨G,so,sl,Q,E,rep,q,hq,hx⟩=>⟨G,so,sl,_,E,rep,q,fun v H1 G1 dv s1 p q1=>by
    obtain ⟨k,tv,qk⟩:=anJ p.rep.h p.val q1
    exact ⟨k,tv,hq k H1 G1 s1 p.toPost qk⟩,hx⟩
theorem aob {te:TD} {R:Bool->Hp->Prop} (h:upT K W (dTest te) σ H R):tTest (up K W te) σ H R:=by
  obtain ⟨G,so,sl,Q,E,rep,q,hq,hx⟩:=h
  refine ⟨G,so,sl,_,E,rep,q,fun v H1 G1 dv s1 p q1=>?_,hx⟩
  split at q1
  · have w:=p.val
    cases w
    exact ⟨_,rfl,hq _ H1 G1 s1 p.toPost q1⟩
  · exact q1.elim
theorem aj4 {tE:TE} {te:TD} {R:Bool->Hp->Prop} (f:∀ R,up K W te σ H R->tE σ H R) (h:upT K W (dTest te) σ H R):tTest tE σ H R:=f _ (aob h)
theorem abA {op:CmpOp} {r:R2} {rd:DV->DV->(DV->Prop)->Prop} (ho:OpR X (compareOp op) r) (hr:OpSem X.K r rd) (ha:DE X W a ta) (hb:DE X W b tb) (hm:behindInMarks op b=false):DT X W (.Compare a [op] [b] pos) (dTest (dOp rd ta tb)):=
  akk (pt_cmpR ho ha hb hm) fun _ _ _ h=>aj4 (fun _ h=>amP hr h) h
def dChain (rd rd':DV->DV->(DV->Prop)->Prop) (ta tb tc:TD):TD:=fun sl Q E=>ta sl (fun x s1=>tb s1 (fun y s2=>rd x y fun z=>match z with
  | .d (.bl b)=>Br b (tc s2 (fun w s3=>rd' y w fun z'=>Q z' s3) E) (Q (.d (.bl false)) s2)
  | _=>False) E) E
theorem PostV.nop {G G1 H1:Hp} {so:So} {v:V} {dv:DV} {sl:DSt} (p:PostV K G so H v H1 G1 dv) (rep:Rep K G so σ H sl):Post K G so σ H sl H1 G1 sl:=(p.slots rep).toPost
theorem aj5 {r r':R2} {rd rd':DV->DV->(DV->Prop)->Prop} {R:VK} (hr:OpSem K r rd) (hr':OpSem K r' rd') (h:up K W (dChain rd rd' ta tb tc) σ H R):tChain r r' (up K W ta) (up K W tb) (up K W tc) σ H R:=by
  obtain ⟨G,so,sl,Q,E,rep,q,hq,hx⟩:=h
  refine ⟨G,so,sl,_,E,rep,q,fun x H1 G1 dx s1 p1 h1=>?_,hx⟩
  refine ⟨G1,so,s1,_,E,p1.rep,h1,fun y H2 G2 dy s2 p2 h2=>?_,hx.step p1.toPost⟩
  have p12:=p1.toPost.trans p2.toPost
  refine hr G2 so H2 x y dx dy _ _ p2.rep.h (p1.over p2.toPost) p2.val h2 fun v H3 G3 dv pv hz=>?_
  split at hz
  · have w:=pv.val
    cases w
    rename_i b
    have p3:=pv.nop p2.rep
    refine ⟨_,rfl,?_⟩
    cases b with
    | true=>
      rw [if_pos rfl]
      refine ⟨G3,so,s2,_,E,p3.rep,(brt hz),fun w H4 G4 dw s4 p4 h4=>?_,(hx.step p12).step p3⟩
      exact hr' G4 so H4 y w dy dw _ R p4.rep.h (p2.over (p3.trans p4.toPost)) p4.val h4 fun v' H' G' dv' pv' hz'=>hq v' H' G' dv' s4 ((p12.trans (p3.trans p4.toPost)).thenV pv') hz'
    | false=>
      rw [if_neg Bool.false_ne_true]
      exact hq _ H3 G3 _ s2 (p12.thenV pv) ((brf hz))
  · exact hz.elim
theorem anz {op op':CmpOp} {r r':R2} {rd rd':DV->DV->(DV->Prop)->Prop} (ho:OpR X (compareOp op) r) (hr:OpSem X.K r rd) (ho':OpR X (compareOp op') r') (hr':OpSem X.K r' rd') (ha:DE X W a ta) (hb:DE X W b tb) (hc:DE X W c tc)
    (hm:lastMarks [op,op'] [b,c]=false:=by with_unfolding_all rfl):DE X W (.Compare a [op,op'] [b,c] pos) (dChain rd rd' ta tb tc):=aaD (pe_chain ho ho' ha hb hc hm) fun _ _ _ h=>aj5 hr hr' h
theorem akD {op op':CmpOp} {r r':R2} {rd rd':DV->DV->(DV->Prop)->Prop} (ho:OpR X (compareOp op) r) (hr:OpSem X.K r rd) (ho':OpR X (compareOp op') r') (hr':OpSem X.K r' rd') (ha:DE X W a ta) (hb:DE X W b tb) (hc:DE X W c tc)
    (hm:lastMarks [op,op'] [b,c]=false:=by with_unfolding_all rfl):DT X W (.Compare a [op,op'] [b,c] pos) (dTest (dChain rd rd' ta tb tc)):=akk (pt_chain ho ho' ha hb hc hm) fun _ _ _ h=>aj4 (fun _ h=>aj5 hr hr' h) h
def DW (X:Cx) (W:WX) (e:Expr) (t:TDT):Prop:=PW X e (upT X.K W t)
theorem DW.dt (h:DW X W e t):DT X W e t:=PW.pt h
theorem ajZ (h:DT X W a t):DW X W (.BoolOp .And [a] pos) t:=pw_and1 h
theorem agR (h:DT X W a t):DW X W (.BoolOp .Or [a] pos) t:=pw_or1 h
theorem amn (h:DT X W a t) (h2:DW X W (.BoolOp .And (b::rest) pos) u):DW X W (.BoolOp .And (a::b::rest) pos) (dAnd t u):=anO (pw_and h h2) fun σ H R ⟨G,so,sl,Q,E,rep,q,hq,hx⟩=>
  ⟨G,so,sl,_,E,rep,q,fun k H1 G1 s1 p q1=>by
    cases k with
    | true=>rw [if_pos rfl];exact ⟨G1,so,s1,Q,E,p.rep,(brt q1),fun k' H2 G2 s2 p2 q2=>hq k' H2 G2 s2 (p.trans p2) q2,hx.step p⟩
    | false=>rw [if_neg Bool.false_ne_true];exact hq false H1 G1 s1 p ((brf q1)),hx⟩
theorem ahm (h:DT X W a t) (h2:DW X W (.BoolOp .Or (b::rest) pos) u):DW X W (.BoolOp .Or (a::b::rest) pos) (dOr t u):=anO (pw_or h h2) fun σ H R ⟨G,so,sl,Q,E,rep,q,hq,hx⟩=>
  ⟨G,so,sl,_,E,rep,q,fun k H1 G1 s1 p q1=>by
    cases k with
    | true=>rw [if_pos rfl];exact hq true H1 G1 s1 p ((brt q1))
    | false=>rw [if_neg Bool.false_ne_true];exact ⟨G1,so,s1,Q,E,p.rep,(brf q1),fun k' H2 G2 s2 p2 q2=>hq k' H2 G2 s2 (p.trans p2) q2,hx.step p⟩,hx⟩
theorem adg (h:DT X W a t):DT X W (.UnaryOp .Not a pos) (dNot t):=akk (pt_not h) fun σ H R ⟨G,so,sl,Q,E,rep,q,hq,hx⟩=>⟨G,so,sl,_,E,rep,q,fun k H1 G1 s1 p q1=>hq (!k) H1 G1 s1 p q1,hx⟩
theorem afm (hc:DT X W c t) (ha:DE X W a ta) (hb:DE X W b tb):DE X W (.IfExp c a b pos) (dIfE t ta tb):=aaD (pe_ifExp hc ha hb) fun σ H R ⟨G,so,sl,Q,E,rep,q,hq,hx⟩=>
  ⟨G,so,sl,_,E,rep,q,fun k H1 G1 s1 p q1=>by
    cases k with
    | true=>rw [if_pos rfl];exact ⟨G1,so,s1,Q,E,p.rep,(brt q1),fun v H2 G2 dv s2 p2 q2=>hq v H2 G2 dv s2 (p.thenE p2) q2,hx.step p⟩
    | false=>rw [if_neg Bool.false_ne_true];exact ⟨G1,so,s1,Q,E,p.rep,(brf q1),fun v H2 G2 dv s2 p2 q2=>hq v H2 G2 dv s2 (p.thenE p2) q2,hx.step p⟩,hx⟩
theorem afl {op:BoolOp} (h:DE X W a ta):DE X W (.BoolOp op [a] pos) ta:=pe_one h
theorem afn (ha:DE X W a ta) (hb:DE X W (.BoolOp .And (b::rest) pos) tb):DE X W (.BoolOp .And (a::b::rest) pos) (dAndV ta tb):=aaD (pe_and ha hb) fun σ H R ⟨G,so,sl,Q,E,rep,q,hq,hx⟩=>
  ⟨G,so,sl,_,E,rep,q,fun v H1 G1 dv s1 p q1=>by
    split at q1
    · have w:=p.val
      cases w
      rename_i k
      refine ⟨_,rfl,?_⟩
      cases k with
      | true=>rw [if_pos rfl];exact ⟨G1,so,s1,Q,E,p.rep,(brt q1),fun v H2 G2 dv s2 p2 q2=>hq v H2 G2 dv s2 (p.toPost.thenE p2) q2,hx.step p.toPost⟩
      | false=>rw [if_neg Bool.false_ne_true];exact hq _ H1 G1 _ s1 p ((brf q1))
    · exact q1.elim,hx⟩
theorem de_or (ha:DE X W a ta) (hb:DE X W (.BoolOp .Or (b::rest) pos) tb):DE X W (.BoolOp .Or (a::b::rest) pos) (dOrV ta tb):=aaD (pe_or ha hb) fun σ H R ⟨G,so,sl,Q,E,rep,q,hq,hx⟩=>
  ⟨G,so,sl,_,E,rep,q,fun v H1 G1 dv s1 p q1=>by
    split at q1
    · have w:=p.val
      cases w
      rename_i k
      refine ⟨_,rfl,?_⟩
      cases k with
      | true=>rw [if_pos rfl];exact hq _ H1 G1 _ s1 p ((brt q1))
      | false=>rw [if_neg Bool.false_ne_true];exact ⟨G1,so,s1,Q,E,p.rep,(brf q1),fun v H2 G2 dv s2 p2 q2=>hq v H2 G2 dv s2 (p.toPost.thenE p2) q2,hx.step p.toPost⟩
    · exact q1.elim,hx⟩
theorem aqs (ha:DE X W a ta):DE X W (.UnaryOp .Not a pos) (dNotV ta):=aaD (pe_notT ha) fun σ H R ⟨G,so,sl,Q,E,rep,q,hq,hx⟩=>⟨G,so,sl,_,E,rep,q,fun v H1 G1 dv s1 p q1=>by
    obtain ⟨k,tv,qk⟩:=anJ p.rep.h p.val q1
    exact ⟨k,tv,hq _ H1 G1 _ s1 (p.toPost.thenV (.dat p.rep.h (.bl _))) qk⟩,hx⟩
def dats:List DV->Option (List D)
  | []=>some []
  | .d x::r=>(dats r).map (x::·)
  | _=>none
theorem agb {G:Hp} {so:So}:∀ {vs:List V} {ds:List DV} {xs:List D},VsOk K G so H vs ds->dats ds=some xs->DAll K G vs xs
  | _,_,_,.nil,e=>by cases e;exact .nil
  | _,_,_,.cons (d:=.d x) h n t,e=>by
    unfold dats at e
    rename_i ds0
    cases z:dats ds0 with
    | none=>rw [z] at e;cases e
    | some ys=>rw [z] at e;cases e;exact .cons h (agb t z)
  | _,_,_,.cons (d:=.src) h n t,e=>by cases e
  | _,_,_,.cons (d:=.own o) h n t,e=>by cases e
  | _,_,_,.cons (d:=.bor o) h n t,e=>by cases e
  | _,_,_,.cons (d:=.see o) h n t,e=>by cases e
@[irreducible] def tupR (xs:List DV) (Q:DV->Prop):Prop:=match dats xs with
  | some ds=>ds.length<=szl/\Q (.d (.tup ds))
  | none=>False
@[irreducible] def lstR (xs:List DV) (Q:DV->Prop):Prop:=match dats xs with
  | some ds=>ds.length<=szl/\Q (.own (.lst ds))
  | none=>False
theorem acT {es:List Expr} {ta:TDA} {k:Nat} (h:DA X W es ta):DE X W (.Tuple es k pos) (dCB tupR ta):=aaD (pe_tup h) fun σ H R ⟨G,so,sl,Q,E,rep,q,hq,hx⟩=>
  ⟨G,so,sl,_,E,rep,q,fun vs H1 G1 ds s1 p w q1=>by
    unfold tupR at q1
    split at q1
    · rename_i xs e
      have a:=agb w e
      exact ⟨by rw [a.length,<- acM];exact q1.1,fun l n=>hq _ _ _ _ s1 (p.thenV (.tuple p.rep.h n a)) q1.2⟩
    · exact q1.elim,hx⟩
theorem abt {es:List Expr} {ta:TDA} (h:DA X W es ta):DE X W (.List es pos) (dCB lstR ta):=aaD (pe_lst h) fun σ H R ⟨G,so,sl,Q,E,rep,q,hq,hx⟩=>
  ⟨G,so,sl,_,E,rep,q,fun vs H1 G1 ds s1 p w q1=>by
    unfold lstR at q1
    split at q1
    · rename_i xs e
      have a:=agb w e
      exact ⟨by rw [a.length,<- acM];exact q1.1,fun l n=>hq _ _ _ _ s1 (p.thenV (.list p.rep.h n a)) q1.2⟩
    · exact q1.elim,hx⟩
end
abbrev TDG:=D->DSt->(DSt->Prop)->Prop
abbrev TDGs:=List D->DSt->(DSt->Prop)->Prop
def GSem (K:PySem.W.Frag) (n:Nat) (ix:List Nat) (g:TG) (gd:TDG):Prop:=∀ (G:Hp) (so:So) (σ:L2.St) (H:Hp) (sl:DSt) (v:V) (d:D) (Q:DSt->Prop) (R:L2.St->Hp->Prop),σ.length=n->Rep K G so σ H sl->DOk K G v d->gd d sl Q->
  (∀ σ' sl',PostS K G so σ H sl σ' H G sl'->(∀ j,j∉ix->σ'[j]?=σ[j]?/\sl'[j]?=sl[j]?)->Q sl'->R σ' H)->g v σ H R
structure DG (X:Cx) (ix:List Nat) (tg:Expr) (g:TG) (gd:TDG):Prop where
  pg:PG X tg g
  sem:GSem X.K X.N.length ix g gd
def gD (i:Nat):TDG:=fun d sl Q=>Q (sl.set i (some (.d d)))
def gNilD:TDGs:=fun ds sl Q=>match ds with
  | []=>Q sl
  | _=>False
def gConsD (g:TDG) (r:TDGs):TDGs:=fun ds sl Q=>match ds with
  | d::ds'=>g d sl fun s1=>r ds' s1 Q
  | []=>False
section
variable {X:Cx} {pos:Pos} {i:Nat} {x:Str} {ix iy:List Nat} {e:Expr} {es:List Expr} {gd:TDG} {gs:TDGs} {g1:TG} {g2:TGs}
theorem ami {K:PySem.W.Frag} {n:Nat} (hi:i < n):GSem K n [i] (gName i) (gD i):=by
  intro G so σ H sl v d Q R hl rep w q k
  have h0:i < σ.length:=by rw [hl];exact hi
  refine k _ _ ((PostE.here rep (dv:=.d d) w (fun _ z=>(nomatch z)) fun _ _ z=>(nomatch z)).set h0 fun _ z=>by cases z) (fun j hj=>?_) q
  exact ⟨List.getElem?_set_ne fun z=>hj (by simp [z]),List.getElem?_set_ne fun z=>hj (by simp [z])⟩
theorem aaw (hN:X.N.Nodup) (hi:X.N[i]?=some x) (hx:Loc X.env.scope x) (hf:X.fn x=true\/X.env.scope.names.lookup x=some .local:=by first | exact .inl rfl | exact .inr rfl | assumption):DG X [i] (.Name x pos) (gName i) (gD i):=
  ⟨pg_name hN hi hx hf,ami (List.getElem?_eq_some_iff.mp hi).1⟩
end
abbrev TDI:=DSt->(List D->DSt->Prop)->XP->Prop
def ItD (K:PySem.W.Frag) (G:Hp) (so:So) (σ:L2.St) (H:Hp) (sl:DSt) (J:It) (ds:List D):Prop:=∃ ps:List Addr,(∀ a∈ps,H a≠none/\so.Nt a/\¬ Own sl σ a)/\
  (∀ (i:Nat) H1,i < ds.length->(∀ a∈ps,H1 a=H a)->J.go i H1)/\(∀ H1,(∀ a∈ps,H1 a=H a)->J.stop ds.length H1)/\
  (∀ (i:Nat) H1 x H2 G1,(∀ a∈ps,H1 a=H a)->Ex G G1->HRep K G1 so H1->J.yld i H1 x H2->i < ds.length->∃ d G2,ds[i]?=some d/\PostV K G1 so H1 x H2 G2 (.d d))
def upI (K:PySem.W.Frag) (W:WX) (t:TDI):TI:=fun σ H R=>∃ G so sl Q E,Rep K G so σ H sl/\t sl Q E/\(∀ J H' G' ds sl',Post K G so σ H sl H' G' sl'->ItD K G' so σ H' sl' J ds->Q ds sl'->R J H')/\XOk K W G so σ H sl E
def DI (X:Cx) (W:WX) (tg iter:Expr) (t:TDI):Prop:=PI X tg iter (upI X.K W t)
theorem alC {X:Cx} {tg e:Expr} {t t':TI} (h:PI X tg e t) (f:∀ σ H R,t' σ H R->t σ H R):PI X tg e t':=⟨fun pins s σ H Q I q=>h.run pins s σ H Q I (f _ _ _ q)⟩
def signs (z:Str):List D:=z.cps.toList.map fun c=>.str ⟨#[c]⟩
@[irreducible] def iterR:DV->(List D->Prop)->Prop
  | .d (.tup ds),Q=>Q ds
  | .d (.str z),Q=>Q (signs z)
  | .see _,_=>False
  | v,Q=>match v.items with
    | some ds=>Q ds
    | none=>False
def dIter (te:TD):TDI:=fun sl Q E=>te sl (fun x s1=>iterR (pubV x) fun ds=>Q ds s1) E
def intsFrom (lo:Int):Nat->List D
  | 0=>[]
  | n + 1=>.int lo::intsFrom (lo + 1) n
theorem acB (lo:Int) (n:Nat):(intsFrom lo n).length=n:=by
  induction n generalizing lo with
  | zero=>rfl
  | succ n ih=>show (intsFrom (lo + 1) n).length + 1=n + 1;rw [ih]
theorem ajj (lo:Int) (n i:Nat) (h:i < n):(intsFrom lo n)[i]?=some (.int (lo + i)):=by
  induction n generalizing lo i with
  | zero=>omega
  | succ n ih=>
    cases i with
    | zero=>show some (D.int lo)=_;rw [show lo + ((0:Nat):Int)=lo by omega]
    | succ i=>show (intsFrom (lo + 1) n)[i]?=_;rw [ih (lo + 1) i (by omega)];congr 2;omega
def dItA (rd:List DV->(List D->Prop)->Prop) (ta:TDA):TDI:=fun sl Q E=>ta sl (fun xs s1=>rd xs fun ds=>Q ds s1) E
@[irreducible] def am4:List DV->(List D->Prop)->Prop
  | [.d (.int j)],Q=>-(2 ^ 62)<=j/\j < 2 ^ 62/\Q (intsFrom 0 j.toNat)
  | _,_=>False
section
variable {X:Cx} {W:WX} {tg e e2 a b:Expr} {te:TD} {ta:TDA} {pos p:Pos}
def iAny (K:PySem.W.Frag) (tl:TE):TI:=fun σ H R=>tl σ H fun x H1=>(∃ a,x=.ref a/\(∃ xs,SqL K H1 a xs)/\R (Itl K a) H1)\/(∃ a,x=.ref a/\(∃ xs,SqT K H1 a xs)/\R (Itt K a) H1)\/∃ z,x=.str z/\R (Its z) H1
theorem apN {tl:TE} (hl:PE X e tl):PI X tg e (iAny X.K tl):=by
  refine ⟨fun pins s σ H R I h=>thn (hl.run pins s σ H _ I h) fun v s1 ⟨x,H1,I1,r1,q1⟩=>?_⟩
  rcases q1 with ⟨a,ex,⟨xs,hq⟩,q⟩ | ⟨a,ex,⟨xs,hq⟩,q⟩ | ⟨z,ex,q⟩
  · subst ex;cases r1
    obtain ⟨its,rv,pl,_⟩:=I1.list hq
    exact wpAny_pyIter_list pl.isList (pi_one (tk:=s1.toks) I1 _ (turn_list a _) ⟨_,Heap.get?_push_size _ rfl,rfl,rfl⟩ q)
  · subst ex;cases r1
    obtain ⟨its,rv,pt,_⟩:=I1.tuple hq
    exact wpAny_pyIter_tuple (show s1.heap.IsTuple a its.toArray from pt) (pi_one (tk:=s1.toks) I1 _ (turn_tuple a _) ⟨_,Heap.get?_push_size _ rfl,rfl,rfl⟩ q)
  · subst ex
    obtain ⟨t,rfl⟩:=r1
    cases ha:z.cps.all (· < 128)
    · exact wpAny_pyIter_wide ha (pi_one (tk:=s1.toks) I1 _ (turn_str _ z t "str_iterator" (.inr rfl)) ⟨_,Heap.get?_push_size _ rfl,rfl,rfl⟩ q)
    · exact wpAny_pyIter_ascii ha (pi_one (tk:=s1.toks) I1 _ (turn_str _ z t "str_ascii_iterator" (.inl rfl)) ⟨_,Heap.get?_push_size _ rfl,rfl,rfl⟩ q)
section
variable {K:PySem.W.Frag} {G H:Hp} {so:So} {σ:L2.St} {sl:DSt} {v w:V} {dv dw:DV}
theorem VOk.listS {ds:List D} (rep:Rep K G so σ H sl) (w:VOk K G so H v dv) (n:∀ o a,dv=.own o\/dv=.bor o->v=.ref a->¬ Own sl σ a) (m:∀ o,dv≠.see o) (e:dv.items=some ds) :
    ∃ a vs,v=.ref a/\H a=some (.lst vs)/\DAll K G vs ds/\H a≠none/\so.Nt a/\¬ Own sl σ a:=by
  unfold DV.items at e
  split at e
  · cases e
    cases w with
    | lst g al=>exact ⟨_,_,rfl,rep.h.ex _ _ g,al,by rw [rep.h.ex _ _ g];simp,rep.h.nsrc g,fun z=>by have:=(rep.nown z).2.1;rw [g] at this;cases this⟩
  · cases e
    obtain ⟨c,rfl,g,s,vs,e1,al⟩:=w
    exact ⟨c,vs,rfl,e1,al,by rw [e1];simp,s,n _ c (.inl rfl) rfl⟩
  · cases e
    obtain ⟨c,rfl,s,vs,e1,al⟩:=w
    exact ⟨c,vs,rfl,e1,al,by rw [e1];simp,s,n _ c (.inr rfl) rfl⟩
  · exact absurd rfl (m _)
  · cases e
theorem ao3 {c:Addr} {vs:List V} {ds:List D} (e:H c=some (.lst vs)) (al:DAll K G vs ds) (s:so.Nt c) (n:¬ Own sl σ c):ItD K G so σ H sl (Itl K c) ds:=by
  refine ⟨[c],fun a ha=>?_,fun i H1 hi k=>?_,fun H1 k=>?_,fun i H1 x H2 G1 k g h1 y hi=>?_⟩
  · obtain rfl:a=c:=by simpa using ha
    exact ⟨by rw [e];simp,s,n⟩
  · have q:H1 c=some (.lst vs):=by rw [k c (by simp)];exact e
    have hl:i < vs.length:=by rw [al.length];exact hi
    exact ⟨vs,vs[i],SqL.of q,by simp [hl]⟩
  · have q:H1 c=some (.lst vs):=by rw [k c (by simp)];exact e
    exact ⟨vs,SqL.of q,by rw [al.length];exact Nat.le_refl _⟩
  · have q:H1 c=some (.lst vs):=by rw [k c (by simp)];exact e
    obtain ⟨rfl,y⟩:=y
    obtain ⟨d,e1,e2⟩:=al.getV (y vs (SqL.of q))
    exact ⟨d,G1,e1,.dat h1 (e2.mono g)⟩
theorem ap9 {c:Addr} {vs:List V} {ds:List D} (rep:Rep K G so σ H sl) (e:SqT K G c vs) (al:DAll K G vs ds):ItD K G so σ H sl (Itt K c) ds:=by
  have kp:∀ (H1:Hp),(∀ a∈(if G c=none then [] else [c]),H1 a=H a)->SqT K H1 c vs:=fun H1 k=>by
    rcases e with (e | ⟨o,e⟩) | e
    · refine .inl (.inl ?_)
      rw [k c (by rw [if_neg (by rw [e];simp)];simp)];exact rep.h.ex _ _ e
    · refine .inl (.inr ⟨o,?_⟩)
      rw [k c (by rw [if_neg (by rw [e];simp)];simp)];exact rep.h.ex _ _ e
    · exact .inr e
  refine ⟨if G c=none then [] else [c],fun a ha=>?_,fun i H1 hi k=>?_,fun H1 k=>?_,fun i H1 x H2 G1 k g h1 y hi=>?_⟩
  · split at ha
    · simp at ha
    · rename_i z
      obtain rfl:a=c:=by simpa using ha
      obtain ⟨o,eo⟩:=Option.ne_none_iff_exists'.mp z
      exact ⟨by rw [rep.h.ex _ _ eo];simp,rep.h.nsrc eo,fun q=>z (rep.nown q).2.1⟩
  · have hl:i < vs.length:=by rw [al.length];exact hi
    exact ⟨vs,vs[i],kp H1 k,by simp [hl]⟩
  · exact ⟨vs,kp H1 k,by rw [al.length];exact Nat.le_refl _⟩
  · obtain ⟨rfl,y⟩:=y
    obtain ⟨d,e1,e2⟩:=al.getV (y vs (kp _ k))
    exact ⟨d,G1,e1,.dat h1 (e2.mono g)⟩
theorem aqa {z:Str}:ItD K G so σ H sl (Its z) (signs z):=by
  have hl:(signs z).length=z.cps.size:=by unfold signs;simp
  refine ⟨[],fun a ha=>by simp at ha,fun i H1 hi k=>by rw [hl] at hi;exact hi,fun H1 k=>Nat.le_of_eq hl.symm,fun i H1 x H2 G1 k g h1 y hi=>?_⟩
  obtain ⟨rfl,c,e,rfl⟩:=y
  refine ⟨.str ⟨#[c]⟩,G1,?_,.dat h1 (.str _)⟩
  unfold signs
  rw [List.getElem?_map,Array.getElem?_toList,e];rfl
theorem aqb {lo:Int} {n:Nat}:ItD K G so σ H sl (Itr lo n) (intsFrom lo n):=by
  have hl:=acB lo n
  refine ⟨[],fun a ha=>by simp at ha,fun i H1 hi k=>by rw [hl] at hi;exact hi,fun H1 k=>Nat.le_of_eq hl.symm,fun i H1 x H2 G1 k g h1 y hi=>?_⟩
  obtain ⟨rfl,rfl⟩:=y
  rw [hl] at hi
  exact ⟨_,G1,ajj lo n i hi,.dat h1 (.int _)⟩
end
end
section
variable {X:Cx} {W:WX} {tg e e2 a b:Expr} {te:TD} {ta:TDA} {pos p:Pos}
theorem acE (h:DE X W e te):DI X W tg e (dIter te):=alC (apN h) fun σ H R ⟨G,so,sl,Q,E,rep,q,hq,hx⟩=>by
  refine ⟨G,so,sl,_,E,rep,q,fun x H1 G0 dx s1 p0 q1=>?_,hx⟩
  obtain ⟨G1,p⟩:=p0.pub
  have w:=p.val
  have sv:=p.sepv
  have rp:=p.rep
  have pp:=p.toPost
  generalize hz:pubV dx=dz at w q1 sv
  unfold iterR at q1
  split at q1
  · cases w with
    | tup g al=>exact .inr (.inl ⟨_,rfl,⟨_,ex_t rp.h.ex g⟩,hq _ H1 G1 _ s1 pp (ap9 rp g al) q1⟩)
  · cases w;exact .inr (.inr ⟨_,rfl,hq _ H1 G1 _ s1 pp aqa q1⟩)
  · exact q1.elim
  · split at q1
    · rename_i ns _o ds e1
      obtain ⟨c,vs,rfl,e2,al,_,s,n⟩:=VOk.listS rp w (fun o c e' q'=>sv c o e' q') (fun o z=>ns o z) e1
      exact .inl ⟨c,rfl,⟨_,SqL.of e2⟩,hq _ H1 G1 _ s1 pp (ao3 e2 al s n) q1⟩
    · exact q1.elim
theorem VsOk.v1 {K:PySem.W.Frag} {G H:Hp} {so:So} {vs:List V} {d:DV} (h:VsOk K G so H vs [d]):∃ v,vs=[v]/\VOk K G so H v d/\∀ o,d≠.own o:=by
  cases h with
  | cons w n t=>cases t;exact ⟨_,rfl,w,n⟩
theorem VsOk.v2 {K:PySem.W.Frag} {G H:Hp} {so:So} {vs:List V} {d e:DV} (h:VsOk K G so H vs [d,e]):∃ v w,vs=[v,w]/\VOk K G so H v d/\VOk K G so H w e/\(∀ o,d≠.own o)/\∀ o,e≠.own o:=by
  cases h with
  | cons w n t=>
    obtain ⟨v,rfl,w2,n2⟩:=t.v1
    exact ⟨_,v,rfl,w,w2,n,n2⟩
theorem aow {K:PySem.W.Frag} {G H:Hp} {so:So} {σ:L2.St} {sl:DSt} (rep:Rep K G so σ H sl) {c:Addr} {o:HO} (g:G c=some o):¬ Own sl σ c:=fun z=>by
  have:=(rep.nown z).2.1
  rw [g] at this;cases this
theorem acy (hg:Gl X "range") (hm:X.mg "range"=none) (h:DA X W [a] ta) (hs:starEach [a] X.env=[(false,eval a X.env)]:=by rfl):DI X W tg (.Call (.Name "range" p) [a] [] pos) (dItA am4 ta):=alC (pi_range1 hg hm h hs) fun σ H R ⟨G,so,sl,Q,E,rep,q,hq,hx⟩=>by
  refine ⟨G,so,sl,_,E,rep,q,fun vs H1 G1 ds s1 pp w q1=>?_,hx⟩
  unfold am4 at q1
  split at q1
  · obtain ⟨v,rfl,w1,_⟩:=w.v1
    cases w1
    exact ⟨_,rfl,q1.1,q1.2.1,hq _ H1 G1 _ s1 pp aqb q1.2.2⟩
  · exact q1.elim
end
section
variable {X:Cx} {W:WX} {e e2:Expr} {ta:TDA} {pos p:Pos}
end
def amC (g:TDG) (tb:TDS) (E:EndsD):List D->DSt->Prop
  | [],sl=>E.nx sl
  | d::r,sl=>g d sl fun s1=>tb { nx:=amC g tb E r,ct:=amC g tb E r,bk:=E.nx,rt:=E.rt,xc:=E.xc } s1
@[irreducible] def dForL (g:TDG) (tb:TDS) (E:EndsD) (ds:List D) (sl:DSt):Prop:=amC g tb E ds sl
theorem afj {g:TDG} {tb:TDS} {E:EndsD} {sl:DSt}:dForL g tb E [] sl=E.nx sl:=by unfold dForL;rfl
theorem ael {g:TDG} {tb:TDS} {E:EndsD} {sl:DSt} {d:D} {r:List D}:dForL g tb E (d::r) sl=g d sl fun s1=>tb { nx:=dForL g tb E r,ct:=dForL g tb E r,bk:=E.nx,rt:=E.rt,xc:=E.xc } s1:=by unfold dForL;rfl
def dFor (ti:TDI) (g:TDG) (tb:TDS):TDS:=fun E sl=>ti sl (fun ds s1=>dForL g tb E ds s1) E.xc
section
variable {X:Cx} {W:WX} {tg iter:Expr} {body:List Stmt} {ti:TDI} {g:TDG} {tb:TDS} {pos:Pos} {ix:List Nat} {g':TG}
theorem aeo (hp:PassesOwn (model X.prog X.w) X.A X.env X.xe) (hc:X.calm=true) (hi:DI X W tg iter ti) (hg:DG X ix tg g' g) (hb:DSs X W body tb) (hs:∀ x,foldedSetIterable iter X.env x=pure x:=by intro _;rfl):DS X W (.For tg iter body [] pos) (dFor ti g tb):=by
  obtain ⟨pg,sg⟩:=hg
  refine aiZ (ps_for hp hc hi pg hb hs) fun D σ H hl ⟨G,so,sl,E,rep,q,ok⟩=>?_
  refine ⟨G,so,sl,_,E.xc,rep,q,fun J H1 G1 ds s1 p0 it q1=>?_,ok.xc.ex⟩
  obtain ⟨ps,prot,goes,stops,yields⟩:=it
  have same:∀ {σ':L2.St} {H' G':Hp} {sl':DSt},PostS X.K G1 so σ H1 s1 σ' H' G' sl'->∀ a∈ps,H' a=H1 a:=fun {σ' H' G' sl'} t a ha=>by
    obtain ⟨n,s,w⟩:=prot a ha
    obtain ⟨o,eo⟩:=Option.ne_none_iff_exists'.mp n
    rw [t.keep a o eo s w,eo]
  have ok1:=ok.step p0.s
  refine ⟨fun i m σ' H'=>m=ds.length - i/\i<=ds.length/\∃ G' sl',PostS X.K G1 so σ H1 s1 σ' H' G' sl'/\dForL g tb E (ds.drop i) sl',⟨ds.length,by simp,Nat.zero_le _,G1,s1,.refl p0.rep,q1⟩,?_⟩
  rintro i m σ' H' ⟨rfl,hi,G',sl',t,q2⟩
  by_cases hlt:i < ds.length
  · refine .inr ⟨goes i H' hlt (same t),fun σ'' H''=>∃ G'' sl'',PostS X.K G1 so σ H1 s1 σ'' H'' G'' sl''/\dForL g tb E (ds.drop (i + 1)) sl'',fun σ'' H'' ⟨G'',sl'',t2,q3⟩=>⟨ds.length - (i + 1),by omega,rfl,hlt,G'',sl'',t2,q3⟩,fun x H2 y=>?_⟩
    obtain ⟨d,G2,ed,pv⟩:=yields i H' x H2 G' (same t) t.ex t.rep.h y hlt
    have pe:=pv.slots t.rep
    have t2:=t.trans pe.toPost.s
    rw [List.drop_eq_getElem_cons hlt] at q2
    have ed':ds[i]=d:=by rw [List.getElem?_eq_getElem hlt] at ed;exact Option.some.inj ed
    rw [ed',ael] at q2
    refine sg G2 so σ' H2 sl' x d _ _ (t.ln.trans hl) pe.rep pe.val q2 fun σ3 sl3 t3 _ q3=>?_
    have t13:=t2.trans t3
    refine ⟨G2,so,sl3,_,t3.rep,q3,⟨fun σ4 H4 G4 s4 t4 q4=>⟨G4,s4,t13.trans t4,q4⟩,fun σ4 H4 G4 s4 t4 q4=>ok1.nx σ4 H4 G4 s4 (t13.trans t4) q4,fun σ4 H4 G4 s4 t4 q4=>⟨G4,s4,t13.trans t4,q4⟩,fun v H4 G4 dv z4 t4 q4=>ok1.rt v H4 G4 dv z4 (t13.thenR t4) q4,ok1.xc.step t13⟩⟩
  · have e:i=ds.length:=by omega
    subst e
    rw [List.drop_length,afj] at q2
    exact .inl ⟨stops H' (same t),ok1.nx σ' H' G' sl' t q2⟩
end
def dWhile (c:TDT) (tb:TDS):TDS:=fun E sl=>∃ I:Nat->DSt->Prop,(∃ m,I m sl)/\∀ m s,I m s->c s (fun b s1=>Br b (tb { nx:=fun s2=>∃ m',m' < m/\I m' s2,ct:=fun s2=>∃ m',m' < m/\I m' s2,bk:=E.nx,rt:=E.rt,xc:=E.xc } s1) (E.nx s1)) E.xc
section
variable {X:Cx} {W:WX} {c:Expr} {body:List Stmt} {tc:TDT} {tb:TDS} {pos:Pos}
theorem ant (hp:PassesOwn (model X.prog X.w) X.A X.env X.xe) (hc:DT X W c tc) (hb:DSs X W body tb):DS X W (.While c body [] pos) (dWhile tc tb):=by
  refine adp (ps_while hp hc hb) fun D σ H ⟨G,so,sl,E,rep,⟨I,⟨m0,i0⟩,turn⟩,ok⟩=>?_
  refine ⟨fun m σ' H'=>∃ G' sl',PostS X.K G so σ H sl σ' H' G' sl'/\I m sl',⟨m0,G,sl,.refl rep,i0⟩,?_⟩
  rintro m σ' H' ⟨G',sl',t,im⟩
  have okt:=ok.step t
  refine ⟨G',so,sl',_,E.xc,t.rep,turn m sl' im,fun b H1 G1 s1 p q=>?_,okt.xc.ex⟩
  have t1:=t.trans p.s
  cases b with
  | true=>
    refine iteT ?_
    refine ⟨fun σ2 H2=>∃ m',m' < m/\∃ G2 s2,PostS X.K G so σ H sl σ2 H2 G2 s2/\I m' s2,fun σ2 H2 h=>h,?_⟩
    exact ⟨G1,so,s1,_,p.rep,(brt q),⟨fun σ4 H4 G4 s4 t4 ⟨m',hm,q4⟩=>⟨m',hm,G4,s4,t1.trans t4,q4⟩,fun σ4 H4 G4 s4 t4 q4=>ok.nx σ4 H4 G4 s4 (t1.trans t4) q4,fun σ4 H4 G4 s4 t4 ⟨m',hm,q4⟩=>⟨m',hm,G4,s4,t1.trans t4,q4⟩,fun v H4 G4 dv z4 t4 q4=>ok.rt v H4 G4 dv z4 (t1.thenR t4) q4,ok.xc.step t1⟩⟩
  | false=>
    refine iteF ?_
    exact ok.nx σ' H1 G1 s1 t1 ((brf q))
end
def wipeD (sl:DSt):List Nat->DSt
  | []=>sl
  | v::vs=>(wipeD sl vs).set v none
def apu (g:TDG) (tt:TDT) (te:TD) (vs:List Nat) (Q:DV->DSt->Prop):List D->List D->DSt->Prop
  | [],acc,sl=>Q (.own (.lst acc)) sl
  | d::r,acc,sl=>g d sl fun s1=>tt s1 (fun b s2=>Br b (te s2 (fun x s3=>match pubV x with
    | .d y=>acc.length < szl/\apu g tt te vs Q r (acc++[y]) (wipeD s3 vs)
    | _=>False) fun _ _ _=>False) (apu g tt te vs Q r acc (wipeD s2 vs))) fun _ _ _=>False
@[irreducible] def dLcL (g:TDG) (tt:TDT) (te:TD) (vs:List Nat) (Q:DV->DSt->Prop) (ds acc:List D) (sl:DSt):Prop:=apu g tt te vs Q ds acc sl
theorem lcL_nil {g:TDG} {tt:TDT} {te:TD} {vs:List Nat} {Q:DV->DSt->Prop} {acc:List D} {sl:DSt}:dLcL g tt te vs Q [] acc sl=Q (.own (.lst acc)) sl:=by unfold dLcL;rfl
theorem afe {g:TDG} {tt:TDT} {te:TD} {vs:List Nat} {Q:DV->DSt->Prop} {d:D} {r acc:List D} {sl:DSt}:dLcL g tt te vs Q (d::r) acc sl=g d sl fun s1=>tt s1 (fun b s2=>Br b (te s2 (fun x s3=>match pubV x with
    | .d y=>acc.length < szl/\dLcL g tt te vs Q r (acc++[y]) (wipeD s3 vs)
    | _=>False) fun _ _ _=>False) (dLcL g tt te vs Q r acc (wipeD s2 vs))) fun _ _ _=>False:=by unfold dLcL;rfl
def dLc (ti:TDI) (g:TDG) (tt:TDT) (te:TD) (vs:List Nat):TD:=fun sl Q E=>ti sl (fun ds s1=>dLcL g tt te vs Q ds [] (wipeD s1 vs)) E
def dYes:TDT:=fun sl Q _=>Q true sl
def DTs (X:Cx) (W:WX) (ifs:List Expr) (t:TDT):Prop:=PTs X ifs (upT X.K W t)
abbrev W0:WX:=fun _ _ _ _=>False
section
variable {X:Cx} {W:WX}
theorem aa5:DTs X W [] dYes:=⟨fun pins s σ H Q I ⟨G,so,sl,Q',E,rep,q,hq,hx⟩=>pts_nil.run pins s σ H Q I (hq true H G sl (.refl rep) q)⟩
section
variable {K:PySem.W.Frag} {G:Hp} {so:So} {σ:L2.St} {H:Hp} {sl:DSt} {vs:List Nat}
theorem aal {i:Nat} {x:DV}:∀ {vs:List Nat},(wipeD sl vs)[i]?=some (some x)->sl[i]?=some (some x)/\i∉vs
  | [],h=>⟨h,by simp⟩
  | v::vs,h=>by
    unfold wipeD at h
    rcases get_set h with ⟨rfl,e⟩ | ⟨ne,e⟩
    · cases e
    · obtain ⟨q1,q2⟩:=aal e
      exact ⟨q1,fun z=>(List.mem_cons.mp z).elim ne q2⟩
theorem aiF:∀ (vs:List Nat),(wipeD sl vs).length=sl.length
  | []=>rfl
  | v::vs=>by unfold wipeD;rw [List.length_set,aiF vs]
theorem aba {c:Addr} (h:Own (wipeD sl vs) (wipe σ vs) c):Own sl σ c:=by
  obtain ⟨i,o,e1,e2⟩:=h
  exact ⟨i,o,(aal e1).1,(wipe_some e2).1⟩
theorem Rep.wipe (r:Rep K G so σ H sl) (vs:List Nat):Rep K G so (L2.wipe σ vs) H (wipeD sl vs):=
  ⟨r.h,by rw [aiF,wipe_length];exact r.len,fun i d e=>by
    obtain ⟨e1,n⟩:=aal e
    obtain ⟨v,f1,f2⟩:=r.slots i d e1
    exact ⟨v,by rw [wipe_out n];exact f1,f2⟩,
    fun i j o o' a e1 e2 e3 e4=>r.sep i j o o' a (aal e1).1 (aal e2).1 (wipe_some e3).1 (wipe_some e4).1,
    fun i o a e1 e2 z=>r.bor i o a (aal e1).1 (wipe_some e2).1 (aba z),fun i o e=>r.nse i o (aal e).1⟩
theorem aju {σ1 σ2:L2.St} (hl:σ1.length=σ2.length) (h:∀ j,j∉vs->σ1[j]?=σ2[j]?):wipe σ1 vs=wipe σ2 vs:=by
  have z:∀ (σ:L2.St) (j:Nat) (vs:List Nat),j∈vs->j < σ.length->(wipe σ vs)[j]?=some none:=by
    intro σ j vs
    induction vs with
    | nil=>intro h;simp at h
    | cons v r ih=>
      intro hm hj
      unfold wipe
      by_cases e:v=j
      · subst e;rw [List.getElem?_set_self (by rw [wipe_length];exact hj)]
      · rw [List.getElem?_set_ne e]
        rcases List.mem_cons.mp hm with q | q
        · exact absurd q.symm e
        · exact ih q hj
  refine List.ext_getElem? fun j=>?_
  by_cases m:j∈vs
  · by_cases hj:j < σ1.length
    · rw [z σ1 j vs m hj,z σ2 j vs m (by rw [<- hl];exact hj)]
    · rw [List.getElem?_eq_none (by rw [wipe_length];omega),List.getElem?_eq_none (by rw [wipe_length];omega)]
  · rw [wipe_out m,wipe_out m];exact h j m
theorem ahx (vs:List Nat):L2.wipe (L2.wipe σ vs) vs=L2.wipe σ vs:=aju (wipe_length σ vs) fun j m=>wipe_out m
theorem Post.unwipe {H1 G1:Hp} {s1:DSt} (r:Rep K G so σ H sl) (p:Post K G so (L2.wipe σ vs) H (wipeD sl vs) H1 G1 s1):Post K G so σ H sl H1 G1 s1:=by
  have lk:∀ (i:Nat) (dv:DV),s1[i]?=some (some dv)->(L2.wipe σ vs)[i]?=σ[i]?:=fun i dv e=>by
    obtain ⟨v,f1,_⟩:=p.rep.slots i dv e
    rw [f1,(wipe_some f1).1]
  have ow:∀ c,Own s1 σ c->Own s1 (L2.wipe σ vs) c:=fun c ⟨i,o,e1,e2⟩=>⟨i,o,e1,by rw [lk i _ e1];exact e2⟩
  refine ⟨p.ex,⟨p.rep.h,by rw [p.rep.len,wipe_length],fun i dv e=>?_,fun i j o o' a e1 e2 e3 e4=>?_,fun i o a e1 e2 z=>?_,p.rep.nse⟩,p.keep,fun a n g s w=>p.frm a n g s fun z=>w (aba z),fun a z=>aba (p.sub a (ow a z)),fun i o e=>let ⟨o1,e1⟩:=p.bsub i o e;⟨o1,(aal e1).1⟩⟩
  · obtain ⟨v,f1,f2⟩:=p.rep.slots i dv e
    exact ⟨v,(wipe_some f1).1,f2⟩
  · exact p.rep.sep i j o o' a e1 e2 (by rw [lk i _ e1];exact e3) (by rw [lk j _ e2];exact e4)
  · exact p.rep.bor i o a e1 (by rw [lk i _ e1];exact e2) (ow a z)
end
variable {elt tg iter:Expr} {ifs:List Expr} {scope:Scope} {own:List (Str × Nat)} {pos spos:Pos} {ti:TDI} {g:TDG} {tt:TDT} {te:TD} {ix:List Nat}
theorem apy {K:PySem.W.Frag} {n:Nat} {g':TG} {σ:L2.St} {H:Hp} {R:VK} (vs:List Nat) (hl:σ.length=n) (sg:GSem K n ix g' g) (hix:∀ j,j∈ix->j∈vs) (h:up K W (dLc ti g tt te vs) σ H R):tLc (upI K W ti) g' (upT K W0 tt) (up K W0 te) vs σ H R:=by
  obtain ⟨G,so,sl,Q,E,rep,q,hq,hx⟩:=h
  refine ⟨G,so,sl,_,E,rep,q,fun J H1 G1 ds s1 p0 it q1=>?_,hx⟩
  obtain ⟨ps,prot,goes,stops,yields⟩:=it
  intro C hC
  have nsC:so.Nt C:=p0.rep.h.there hC
  have rw1:=p0.rep.wipe vs
  have psC:∀ a∈ps,a≠C:=fun a ha z=>(prot a ha).1 (z ▸ hC)
  refine ⟨fun i m H'=>m=ds.length - i/\i<=ds.length/\∃ G' sl' us acc,Post K G1 so (L2.wipe σ vs) H1 (wipeD s1 vs) H' G' sl'/\H' C=some (.lst us)/\G' C=none/\DAll K G' us acc/\dLcL g tt te vs Q (ds.drop i) acc sl',
    ⟨ds.length,by simp,Nat.zero_le _,G1,_,[],[],?_,upd_same,p0.rep.h.ex.free hC,.nil,q1⟩,?_⟩
  · have pv:=PostV.list (K:=K) (G:=G1) (so:=so) (ds:=[]) rw1.h hC .nil
    exact (pv.slots rw1).toPost
  rintro i m H' ⟨rfl,hi,G',sl',us,acc,t,hCl,gC,al,q2⟩
  have same:∀ a∈ps,H' a=H1 a:=fun a ha=>by
    obtain ⟨n1,s,w⟩:=prot a ha
    exact aby t.keep n1 s
  have noC:∀ {sl'':DSt} {σ'':L2.St},(∀ a,Own sl'' σ'' a->Own (wipeD s1 vs) (L2.wipe σ vs) a)->¬ Own sl'' σ'' C:=fun f z=>(p0.rep.nown (aba (f C z))).1 hC
  have borC:∀ (j:Nat) (o:OO),(wipeD s1 vs)[j]?=some (some (.bor o))->(L2.wipe σ vs)[j]?=some (some (.ref C))->False:=fun j o e1 e2=>by
    obtain ⟨v,f1,f2⟩:=rw1.slots j _ e1
    rw [e2] at f1;cases f1
    obtain ⟨b,z,_,k⟩:=f2
    cases z
    exact k.there hC
  by_cases hlt:i < ds.length
  · refine .inr ⟨goes i H' hlt same,fun H''=>∃ G'' sl'' us' acc',Post K G1 so (L2.wipe σ vs) H1 (wipeD s1 vs) H'' G'' sl''/\H'' C=some (.lst us')/\G'' C=none/\DAll K G'' us' acc'/\dLcL g tt te vs Q (ds.drop (i + 1)) acc' sl'',
      fun H'' ⟨G'',sl'',us',acc',h1,h2,h3,h4,h5⟩=>⟨ds.length - (i + 1),by omega,rfl,hlt,G'',sl'',us',acc',h1,h2,h3,h4,h5⟩,fun x H2 y=>?_⟩
    obtain ⟨d,G2,ed,pv⟩:=yields i H' x H2 G' same t.ex t.rep.h y hlt
    have pe:=pv.slots t.rep
    have C2:H2 C=some (.lst us):=pe.keep C _ hCl nsC
    have g2:G2 C=none:=pe.frm C (by rw [hCl];simp) gC nsC (noC t.sub)
    rw [List.drop_eq_getElem_cons hlt] at q2
    have ed':ds[i]=d:=by rw [List.getElem?_eq_getElem hlt] at ed;exact Option.some.inj ed
    rw [ed',afe] at q2
    refine sg G2 so _ H2 sl' x d _ _ ((wipe_length σ vs).trans hl) pe.rep pe.val q2 fun σ3 sl3 t3 u3 q3=>?_
    have e3:L2.wipe σ3 vs=L2.wipe σ vs:=by
      rw [<- ahx (σ:=σ) vs]
      exact aju t3.ln fun j hj=>(u3 j fun z=>hj (hix j z)).1
    have sub3:∀ a,Own (wipeD sl3 vs) (L2.wipe σ3 vs) a->Own (wipeD s1 vs) (L2.wipe σ vs) a:=fun a z=>by
      rw [e3] at z
      by_cases w:Own sl' (L2.wipe σ vs) a
      · exact t.sub a w
      · obtain ⟨j,o,z1,z2⟩:=z
        have z2':σ3[j]?=some (some (.ref a)):=by
          rw [<- e3] at z2;exact (wipe_some z2).1
        have ow3:Own sl3 σ3 a:=⟨j,o,(aal z1).1,z2'⟩
        obtain ⟨n1,g1,s1'⟩:=t3.rep.nown ow3
        exact absurd ow3 (t3.sub a n1 s1' w)
    have sub3':∀ a,Own sl3 σ3 a->Own sl' (L2.wipe σ vs) a:=fun a z=>by
      by_cases w:Own sl' (L2.wipe σ vs) a
      · exact w
      · obtain ⟨n1,g1,s1'⟩:=t3.rep.nown z
        exact absurd z (t3.sub a n1 s1' w)
    have bs3:∀ (j:Nat) (o:OO),sl3[j]?=some (some (.bor o))->j∉vs->∃ o',(wipeD s1 vs)[j]?=some (some (.bor o')):=fun j o e n=>by
      rw [(u3 j fun z=>n (hix j z)).2] at e
      exact t.bsub j o e
    refine ⟨e3,G2,so,sl3,_,fun _ _ _=>False,t3.rep,q3,fun b H4 G4 s4 p4 q4=>?_,fun _ _ _ _ _ _ _ _ z=>z⟩
    have C4:H4 C=some (.lst us):=p4.keep C _ C2 nsC
    have n3C:¬ Own sl3 σ3 C:=fun z=>noC t.sub (sub3' C z)
    have g4:G4 C=none:=p4.frm C (by rw [C2];simp) g2 nsC n3C
    have k4:∀ a o,H1 a=some o->so.Nt a->H4 a=some o:=fun a o e s=>p4.keep a o (pe.keep a o (t.keep a o e s) s) s
    have f4:∀ a,H1 a≠none->G1 a=none->so.Nt a->¬ Own (wipeD s1 vs) (L2.wipe σ vs) a->G4 a=none:=fun a n1 g1 s w=>by
      have n2:¬ Own sl' (L2.wipe σ vs) a:=fun z=>w (t.sub a z)
      have h':H' a≠none:=by rw [aby t.keep n1 s];exact n1
      have h2:H2 a≠none:=by rw [aby pe.keep h' s];exact h'
      exact p4.frm a h2 (pe.frm a h' (t.frm a n1 g1 s w) s n2) s fun z=>n2 (sub3' a z)
    have bs4:∀ (j:Nat) (o:OO),s4[j]?=some (some (.bor o))->j∉vs->∃ o',(wipeD s1 vs)[j]?=some (some (.bor o')):=fun j o e n=>by
      obtain ⟨o1,e1⟩:=p4.bsub j o e
      exact bs3 j o1 e1 n
    cases b with
    | false=>
      refine iteF ⟨G4,wipeD s4 vs,us,acc,⟨t.ex.trans (pe.ex.trans p4.ex),?_,k4,f4,fun a z=>?_,fun j o e=>bs4 j o (aal e).1 (aal e).2⟩,C4,g4,al.mono (pe.ex.trans p4.ex),(brf q4)⟩
      · have r:=p4.rep.wipe vs;rw [e3] at r;exact r
      · refine t.sub a (sub3' a (p4.sub a (aba (vs:=vs) ?_)))
        rw [e3];exact z
    | true=>
      refine iteT ⟨G4,so,s4,_,fun _ _ _=>False,p4.rep,(brt q4),fun y H5 G5 dy s5 p5' q5=>?_,fun _ _ _ _ _ _ _ _ z=>z⟩
      obtain ⟨G6,p5⟩:=p5'.pub
      have wv:=p5.val
      split at q5
      · rename_i yd ey
        rw [ey] at wv
        have n4C:¬ Own s4 σ3 C:=fun z=>n3C (p4.sub C z)
        have C5:H5 C=some (.lst us):=p5.keep C _ C4 nsC
        have g5:G6 C=none:=p5.frm C (by rw [C4];simp) g4 nsC n4C
        have k5:∀ a o,H1 a=some o->so.Nt a->H5 a=some o:=fun a o e s=>p5.keep a o (k4 a o e s) s
        have f5:∀ a,H1 a≠none->G1 a=none->so.Nt a->¬ Own (wipeD s1 vs) (L2.wipe σ vs) a->G6 a=none:=fun a n1 g1 s w=>by
          have n2:¬ Own sl' (L2.wipe σ vs) a:=fun z=>w (t.sub a z)
          have h4:H4 a≠none:=by rw [aby k4 n1 s];exact n1
          exact p5.frm a h4 (f4 a n1 g1 s w) s fun z=>n2 (sub3' a (p4.sub a z))
        have bs5:∀ (j:Nat) (o:OO),s5[j]?=some (some (.bor o))->j∉vs->∃ o',(wipeD s1 vs)[j]?=some (some (.bor o')):=fun j o e n=>by
          obtain ⟨o1,e1⟩:=p5.bsub j o e
          exact bs4 j o1 e1 n
        have al5:DAll K G6 us acc:=al.mono (pe.ex.trans (p4.ex.trans p5.ex))
        have lu:us.length=acc.length:=al5.length
        refine ⟨us,C5,by rw [lu,<- acM];exact q5.1,G6,wipeD s5 vs,us++[y],acc++[yd],⟨t.ex.trans (pe.ex.trans (p4.ex.trans p5.ex)),?_,fun a o e s=>?_,f5,fun a z=>?_,fun j o e=>bs5 j o (aal e).1 (aal e).2⟩,upd_same,g5,al5.append (.cons wv .nil),q5.2⟩
        · have r:=p5.rep.wipe vs
          rw [e3] at r
          refine ⟨⟨fun a o e=>?_,fun a k e=>?_,r.h.ok,aea r.h.tp (by intro _ z;cases z)⟩,r.len,fun j dv e=>?_,r.sep,r.bor,r.nse⟩
          · rw [upd_ne (ne_of_none e g5)];exact r.h.ex a o e
          · exact (r.h.vol a k e).keep (Ex.refl _) (r.h.vol a k e).g (upd_ne fun z=>nsC (z ▸ ⟨k,e⟩))
          · obtain ⟨v,f1,f2⟩:=r.slots j dv e
            refine ⟨v,f1,?_⟩
            have key:∀ a:Addr,a≠C->(upd H5 C (.lst (us++[y]))) a=H5 a:=fun a z=>upd_ne z
            cases dv with
            | d z=>exact f2
            | src=>exact f2
            | own o=>
              obtain ⟨a,r1,r2,r3,r4⟩:=f2
              subst r1
              have z:a≠C:=fun z=>by
                subst z
                exact noC (fun a z=>t.sub a (sub3' a (p4.sub a (p5.sub a (aba (vs:=vs) (by rw [e3];exact z)))))) ⟨j,o,e,f1⟩
              exact ⟨a,rfl,r2,r3,r4.keep (Ex.refl _) (key a z)⟩
            | bor o=>
              obtain ⟨a,r1,r3,r4⟩:=f2
              subst r1
              have z:a≠C:=fun z=>by
                subst z
                obtain ⟨o1,z1⟩:=bs5 j o (aal e).1 (aal e).2
                exact borC j o1 z1 f1
              exact ⟨a,rfl,r3,r4.keep (Ex.refl _) (key a z)⟩
            | see o=>exact absurd e (r.nse j o)
            | mu y D gs=>exact SlOk.muU f2 (Ex.refl _) nsC
            | gh _ _=>exact SlOk.ghU f2 (Ex.refl _) nsC
        · rw [upd_ne (fun z=>by subst z;rw [hC] at e;cases e)];exact k5 a o e s
        · exact t.sub a (sub3' a (p4.sub a (p5.sub a (aba (vs:=vs) (by rw [e3];exact z)))))
      · exact q5.elim
  · have e:i=ds.length:=by omega
    subst e
    rw [List.drop_length,lcL_nil] at q2
    refine .inl ⟨stops H' same,hq _ H' G' _ sl' ?_ q2⟩
    have pu:=t.unwipe p0.rep
    refine (p0.thenE { pu with val:=⟨C,rfl,gC,nsC,us,hCl,al⟩,new:=fun a o _ z=>?_,sepv:=fun a o _ z w=>?_,nbs:=fun a o j o' _ z e1 e2=>?_ })
    · cases z;exact .inl hC
    · cases z;exact (p0.rep.nown (pu.sub _ w)).1 hC
    · cases z
      obtain ⟨o1,z1⟩:=t.bsub j o' e1
      have lkj:(L2.wipe σ vs)[j]?=some (some (.ref C)):=by rw [wipe_out (aal z1).2];exact e2
      exact borC j o1 z1 lkj
theorem aet {g':TG} (hc:X.calm=true) (hN:X.N.Nodup) (hi:DI X W tg iter ti) (ok:BlkOk X.N X.env.scope scope own)
    (hg:∀ s H C cl fp,DG (X.blk s H scope (compEnvC scope cl C X.env) fp) ix tg g' g) (ht:∀ s H C cl fp,DTs (X.blk s H scope (compEnvC scope cl C X.env) fp) W0 ifs tt)
    (he:∀ s H C cl fp,DE (X.blk s H scope (compEnvC scope cl C X.env) fp) W0 elt te) (hix:∀ j,j∈ix->j∈own.map (·.2):=by decide) (hs:∀ x,foldedSetIterable iter X.env x=pure x:=by intro _;rfl) :
    DE X W (.ListComp elt [⟨tg,iter,ifs,0⟩] scope pos) (dLc ti g tt te (own.map (·.2))):=by
  have b:=pe_lc (tt:=upT X.K W0 tt) (te:=up X.K W0 te) (ifs:=ifs) (elt:=elt) (pos:=pos) hc hN hi ok (fun s H C cl fp=>(hg s H C cl fp).pg) ht he hs
  exact ⟨fun pins s σ H Q I q=>b.run pins s σ H Q I (apy _ I.len (hg s H 0 [] []).sem hix q)⟩
theorem af9 {g':TG} {i:Nat} {y:Str} {py:Pos} (hc:X.calm=true) (hN:X.N.Nodup) (hy:X.N[i]?=some y) (hyl:X.env.scope.names.lookup y=some .local) (hsw:swapsWith (.ListComp elt [⟨tg,iter,ifs,0⟩] scope pos) (some (.Name y py)) spos.line X.env=pure true)
    (hi:DI X W tg iter ti) (ok:BlkOk X.N X.env.scope scope own)
    (hg:∀ s H C cl fp,DG (X.blk s H scope (compEnvC scope cl C X.env) fp) ix tg g' g) (ht:∀ s H C cl fp,DTs (X.blk s H scope (compEnvC scope cl C X.env) fp) W0 ifs tt)
    (he:∀ s H C cl fp,DE (X.blk s H scope (compEnvC scope cl C X.env) fp) W0 elt te) (hix:∀ j,j∈ix->j∈own.map (·.2):=by decide) (hs:∀ x,foldedSetIterable iter X.env x=pure x:=by intro _;rfl) :
    DS X W (.Assign [.Name y py] (.ListComp elt [⟨tg,iter,ifs,0⟩] scope pos) spos) (dSet (dLc ti g tt te (own.map (·.2))) i):=by
  have b:=ps_setLc (tt:=upT X.K W0 tt) (te:=up X.K W0 te) (pos:=pos) (spos:=spos) (py:=py) hc hN hy hyl hsw hi ok (fun s H C cl fp=>(hg s H C cl fp).pg) ht he hs
  refine ⟨fun pins s σ H D I q=>b.run pins s σ H D I ?_⟩
  have q2:=anF (K:=X.K) (W:=W) (te:=dLc ti g tt te (own.map (·.2))) (i:=i) (D:=D) (σ:=σ) (H:=H) (fun _=>by rw [I.len];exact (List.getElem?_eq_some_iff.mp hy).1) q
  exact apy _ I.len (hg s H 0 [] []).sem hix q2
end
theorem adl {X:Cx}:L2N.Takes X (fun _ _ _ _=>False):=fun _ _ ⟨_,_,_,_,_,_,_,_,_,_,_,_,_,_,_,_,z⟩=>z.elim
theorem tkOf {X:Cx} {E:XK} (hs:X.stack=X.env::X.outer) (hf:X.env.frame=some X.env.locals) (hex:X.ex=[]) {E₁:Value->Shared->Prop}
    (hx:X.xe=fun e s'=>wpAny (model X.prog X.w) X.A (leaving X.env e) (fun _ s''=>L2N.CX X.prog X.w X.outer X.H_0 X.s_0 E e s'') E₁ s'):L2N.Takes X (fun cls d _ H=>E cls d H):=L2N.takes_of hs hf hex hx
abbrev XE':=Value->List (Str × D)->Prop
abbrev SpD:=List DV->(DV->Prop)->XE'->Prop
structure PostH (K:PySem.W.Frag) (G:Hp) (so:So) (H:Hp) (H' G':Hp):Prop where
  ex:Ex G G'
  hrep:HRep K G' so H'
  keep:∀ a o,H a=some o->so.Nq a->H' a=some o
  frm:∀ a,H a≠none->G a=none->so.Nt a->G' a=none
def upSp (K:PySem.W.Frag) (sp:SpD):Sp:=fun vs H Q E=>∃ G so args QD ED,HRep K G so H/\VsOk K G so H vs args/\sp args QD ED/\(∀ v H' G' dv,PostV K G so H v H' G' dv->QD dv->Q v H')/\
  (∀ cls d H' G' fs,PostH K G so H H' G'->XdOk K G' H' d fs->ED cls fs->E cls d H')
def So.drop (so:So):So:=so.filter fun p=>match p.2 with
  | .mt _=>false
  | _=>true
theorem So.drop_sub {so:So} {p:Addr × Kd} (h:p∈so.drop):p∈so:=(List.mem_filter.mp h).1
theorem So.drop_nt {so:So} {a:Addr} (h:so.Nt a):so.drop.Nt a:=fun ⟨k,e⟩=>h ⟨k,So.drop_sub e⟩
theorem So.drop_nq {so:So} {a:Addr} (h:so.Nq a):so.drop.Nt a:=fun ⟨k,e⟩=>by
  obtain ⟨C,rfl⟩:=h k (So.drop_sub e)
  exact absurd (List.mem_filter.mp e).2 (by simp)
theorem So.drop_mt {K:PySem.W.Frag} {so:So} {a C:Addr} (ok:SoOk K so) (h:(a,Kd.mt C)∈so):so.Nq a:=fun k e=>⟨C,ok.uq a k (.mt C) e h⟩
theorem So.drop_in {so:So} {a:Addr} {k:Kd} (h:(a,k)∈so) (n:∀ C,k≠.mt C):(a,k)∈so.drop:=List.mem_filter.mpr ⟨h,by cases k<;>first | rfl | exact absurd rfl (n _)⟩
section
variable {K:PySem.W.Frag} {G G' H H':Hp} {so:So}
theorem SoOk.drop (h:SoOk K so):SoOk K so.drop:=⟨fun q hq=>So.drop_in (h.tb q hq) (fun _ e=>by cases e),fun a k k' e e'=>h.uq a k k' (So.drop_sub e) (So.drop_sub e')⟩
theorem HRep.drop (h:HRep K G so H):HRep K G so.drop H:=⟨h.ex,fun a k e=>h.vol a k (So.drop_sub e),h.ok.drop,h.tp⟩
theorem VOk.drop {v:V} {dv:DV} (h:VOk K G so H v dv):VOk K G so.drop H v dv:=by
  cases dv with
  | d x=>exact h
  | src=>obtain ⟨a,⟨c,e⟩,q⟩:=h;exact ⟨a,⟨c,So.drop_in e (fun _ z=>by cases z)⟩,q⟩
  | own o=>obtain ⟨a,q,g,s,k⟩:=h;exact ⟨a,q,g,So.drop_nt s,k⟩
  | bor o=>obtain ⟨a,q,s,k⟩:=h;exact ⟨a,q,So.drop_nt s,k⟩
  | see o=>obtain ⟨a,q,s,k⟩:=h;exact ⟨a,q,So.drop_nt s,k⟩
  | mu _ _ _=>exact h
  | gh _ _=>exact h
theorem VsOk.drop:∀ {vs:List V} {ds:List DV},VsOk K G so H vs ds->VsOk K G so.drop H vs ds
  | _,_,.nil=>.nil
  | _,_,.cons h n t=>.cons h.drop n (VsOk.drop t)
structure PostU (K:PySem.W.Frag) (G:Hp) (so:So) (H:Hp) (v:V) (H' G':Hp) (dv:DV):Prop where
  ex:Ex G G'
  hrep:HRep K G' so H'
  keep:∀ a o,H a=some o->so.Nt a->H' a=some o
  frm:∀ a,H a≠none->G a=none->so.Nt a->G' a=none
  val:VOk K G' so H' v dv
  new:∀ a o,dv=.own o->v=.ref a->H a=none
  nob:∀ o,dv≠.bor o
structure PostHU (K:PySem.W.Frag) (G:Hp) (so:So) (H:Hp) (H' G':Hp):Prop where
  ex:Ex G G'
  hrep:HRep K G' so H'
  keep:∀ a o,H a=some o->so.Nt a->H' a=some o
  frm:∀ a,H a≠none->G a=none->so.Nt a->G' a=none
theorem HRep.back (h:HRep K G so H) (ex:Ex G G') (p:HRep K G' so.drop H') (kp:∀ a C o,(a,Kd.mt C)∈so->so.drop.Nt a->H a=some o->H' a=some o) (f:∀ a C,(a,Kd.mt C)∈so->so.drop.Nt a->H a≠none->G a=none->G' a=none):HRep K G' so H':=by
  refine ⟨p.ex,fun a k e=>?_,h.ok,p.tp⟩
  by_cases c:∃ C,k=.mt C
  · obtain ⟨C,rfl⟩:=c
    have v:=h.vol a _ e
    have nt:=So.drop_nq (So.drop_mt h.ok e)
    obtain ⟨o,ho⟩:=Option.ne_none_iff_exists'.mp v.there
    exact v.keep ex (f a C e nt v.there v.g) (by rw [kp a C o e nt ho,ho])
  · exact p.vol a k (So.drop_in e fun C z=>c ⟨C,z⟩)
theorem PostHU.back (h:HRep K G so H) (p:PostHU K G so.drop H H' G'):PostH K G so H H' G':=by
  refine ⟨p.ex,⟨p.hrep.ex,fun a k e=>?_,h.ok,p.hrep.tp⟩,fun a o e s=>p.keep a o e (So.drop_nq s),fun a n g s=>p.frm a n g (So.drop_nt s)⟩
  by_cases c:∃ C,k=.mt C
  · obtain ⟨C,rfl⟩:=c
    have v:=h.vol a _ e
    have nt:=So.drop_nq (So.drop_mt h.ok e)
    exact v.keep p.ex (p.frm a v.there v.g nt) (aby p.keep v.there nt)
  · exact p.hrep.vol a k (So.drop_in e fun C z=>c ⟨C,z⟩)
theorem PostU.h {v:V} {dv:DV} (p:PostU K G so H v H' G' dv):PostHU K G so H H' G':=⟨p.ex,p.hrep,p.keep,p.frm⟩
theorem PostU.back {v:V} {dv:DV} (h:HRep K G so H) (p:PostU K G so.drop H v H' G' dv) (ns:∀ o,dv≠.see o):PostV K G so H v H' G' dv:=by
  have b:=p.h.back h
  refine ⟨b.ex,b.hrep,b.keep,b.frm,?_,p.new,p.nob⟩
  have w:=p.val
  cases dv with
  | d x=>exact w
  | src=>obtain ⟨a,⟨c,e⟩,q⟩:=w;exact ⟨a,⟨c,So.drop_sub e⟩,q⟩
  | own o=>obtain ⟨a,q,g,s,k⟩:=w;exact ⟨a,q,g,h.there (p.new a o rfl q),k⟩
  | bor o=>exact absurd rfl (p.nob o)
  | see o=>exact absurd rfl (ns o)
  | mu _ _ _=>exact w
  | gh _ _=>exact w
end
theorem PostU.trans {K:PySem.W.Frag} {G H:Hp} {so:So} {v1 v2:V} {d1 d2:DV} {H1 H2 G1 G2:Hp} (a:PostU K G so H v1 H1 G1 d1) (b:PostU K G1 so H1 v2 H2 G2 d2):PostU K G so H v2 H2 G2 d2:=
  ⟨a.ex.trans b.ex,b.hrep,fun c o e s=>b.keep c o (a.keep c o e s) s,fun c n g s=>b.frm c (by rw [aby a.keep n s];exact n) (a.frm c n g s) s,b.val,fun c o e q=>by
    cases z:H c with
    | none=>rfl
    | some u=>
      have n:=b.new c o e q
      by_cases s:so.Vol c
      · exact absurd n (a.hrep.vth s)
      · rw [a.keep c u z s] at n
        exact (nomatch n),b.nob⟩
theorem amQ {K:PySem.W.Frag} {sp:SpD} {vs:List V} {H:Hp} {Q:VK} {E:XK} (h:upSp K sp vs H Q E):∃ G so args QD ED,HRep K G so H/\VsOk K G so H vs args/\sp args QD ED/\(∀ v H' G' dv,PostU K G so H v H' G' dv->(∀ o,dv≠.see o)->QD dv->Q v H')/\
    (∀ cls d H' G' fs,PostHU K G so H H' G'->XdOk K G' H' d fs->ED cls fs->E cls d H'):=by
  obtain ⟨G,so,as,QD,ED,hrep,wv,q,hq,hx⟩:=h
  exact ⟨G,so.drop,as,QD,ED,hrep.drop,wv.drop,q,fun v H' G' dv p n z=>hq v H' G' dv (p.back hrep n) z,fun cls d H' G' fs p z1 z2=>hx cls d H' G' fs (p.back hrep) z1 z2⟩
structure FnG (P:Program) (w:World) (K:PySem.W.Frag) (mg:Str->Option Value) (base:Heap) (k:Nat) (f:Addr) (fd:FuncData) (ps:List Str) (sp:SpD):Prop where
  len:∀ args Q E,sp args Q E->args.length=ps.length
  run:∀ (A:Around) (outer:List Env) (s:Shared) (H:Hp) (args:Args) (us:List Value) (vs:List V) (Q:VK) (E:XK),Room k A->A.guards=some []->Env0 P w K mg base A outer s H->BindsTo s fd args (ps.zip us)->Vals vs us->upSp K sp vs H Q E->
    codeAny (model P w) A (.call (.ref f) args) (CR (L2N.CX P w) outer P w H s Q E) s
theorem FnG.mono {P:Program} {w:World} {K:PySem.W.Frag} {mg:Str->Option Value} {base:Heap} {j k:Nat} {f:Addr} {fd:FuncData} {ps:List Str} {sp:SpD} (F:FnG P w K mg base j f fd ps sp) (h:j<=k):FnG P w K mg base k f fd ps sp:=
  ⟨F.len,fun A outer s H args us vs Q E hr=>F.run A outer s H args us vs Q E (hr.mono h)⟩
def startD (N:List Str) (args:List DV):DSt:=args.map some++List.replicate (N.length - args.length) none
theorem VsOk.get {K:PySem.W.Frag} {G:Hp} {so:So} {H:Hp}:∀ {vs:List V} {ds:List DV} {i:Nat} {d:DV},VsOk K G so H vs ds->ds[i]?=some d->∃ v,vs[i]?=some v/\VOk K G so H v d/\∀ o,d≠.own o
  | _,_,_,_,.nil,e=>by simp at e
  | _,_,0,_,.cons h n _,e=>by simp at e;subst e;exact ⟨_,rfl,h,n⟩
  | _,_,i + 1,_,.cons _ _ t,e=>by
    obtain ⟨v,h1,h2⟩:=VsOk.get (i:=i) t (by simpa using e)
    exact ⟨v,by simpa using h1,h2⟩
theorem adm {N:List Str} {args:List DV} {i:Nat} {d:DV} (h:(startD N args)[i]?=some (some d)):args[i]?=some d:=by
  unfold startD at h
  by_cases hi:i < args.length
  · rw [List.getElem?_append_left (by simpa using hi),List.getElem?_map] at h
    cases e:args[i]? with
    | none=>rw [e] at h;cases h
    | some a=>rw [e] at h;cases h;rfl
  · rw [List.getElem?_append_right (by simpa using hi),List.getElem?_replicate] at h
    split at h<;>cases h
theorem agy {K:PySem.W.Frag} {G:Hp} {so:So} {H:Hp} {N:List Str} {vs:List V} {args:List DV} (h:HRep K G so H) (w:VsOk K G so H vs args) (ns:∀ (i:Nat) (o:OO),args[i]?≠some (.see o)):Rep K G so (L2.start N vs) H (startD N args):=by
  have lv:=w.length
  have no:∀ a,¬ Own (startD N args) (L2.start N vs) a:=fun a ⟨i,o,e,_⟩=>by
    obtain ⟨_,_,_,n⟩:=w.get (adm e)
    exact n o rfl
  refine ⟨h,by unfold startD L2.start;simp [lv],fun i d e=>?_,fun i j o o' a e1 _ _ _=>?_,fun i o a _ _=>no a,fun i o e=>ns i o (adm e)⟩
  · obtain ⟨v,e1,e2,_⟩:=w.get (adm e)
    refine ⟨v,?_,VOk.slot e2⟩
    unfold L2.start
    have hi:i < vs.length:=(List.getElem?_eq_some_iff.mp e1).1
    rw [List.getElem?_append_left (by simpa using hi),List.getElem?_map,e1];rfl
  · obtain ⟨_,_,_,n⟩:=w.get (adm e1)
    exact absurd rfl (n o)
def retQ (Q:DV->Prop):DV->Prop
  | .see _=>False
  | .bor _=>False
  | .mu _ _ _=>False
  | .gh _ _=>False
  | v=>Q v
theorem alx {Q:DV->Prop} {v:DV} (h:retQ Q v):(∀ o,v≠.bor o)/\Q v:=by
  cases v with
  | d x=>exact ⟨fun _ z=>(nomatch z),h⟩
  | src=>exact ⟨fun _ z=>(nomatch z),h⟩
  | own o=>exact ⟨fun _ z=>(nomatch z),h⟩
  | bor o=>exact h.elim
  | see o=>exact h.elim
  | mu _ _ _=>exact h.elim
  | gh _ _=>exact h.elim
theorem aou {Q:DV->Prop} {v:DV} (h:retQ Q v):∀ o,v≠.see o:=by
  cases v with
  | see o=>exact h.elim
  | _=>exact fun _ z=>(nomatch z)
theorem ad3 {P:Program} {w:World} {K:PySem.W.Frag} {mg:Str->Option Value} {base:Heap} {x qual:Str} {params:Arguments} {body:List Stmt} {scope:Scope} {dvs:List V} {kws:List (Str × V)} {f:Addr} {fd:FuncData} {N ps:List Str} {k:Nat} {sp:SpD} {t:TDS}
    (F:FunD K x qual params body scope dvs kws f fd) (S:FnScope N ps scope) (len:∀ args Q E,sp args Q E->args.length=ps.length) (nsee:∀ args Q E,sp args Q E->∀ (i:Nat) (o:OO),args[i]?≠some (.see o))
    (hd:∀ (cdv:Value) (A:Around) (outer:List Env) (s:Shared) (H:Hp) (E:XK),Room k (A.deeper (envOfC qual scope s.heap.objs.size f cdv))->(cxOf (L2N.CX P w) P w K mg base N qual scope f cdv A outer s H E).A.guards=some []->
      DSs (cxOf (L2N.CX P w) P w K mg base N qual scope f cdv A outer s H E) (fun cls d _ H'=>E cls d H') body t)
    (hr:∀ args Q E,sp args Q E->t { nx:=fun _=>Q (.d .non),rt:=fun v _=>retQ Q v,bk:=fun _=>False,ct:=fun _=>False,xc:=fun cls fs _=>E cls fs } (startD N args)):FnG P w K mg base (k + 1) f fd ps sp:=by
  obtain ⟨oc,od,dV,kV,doc,pm,an,cdv,ct,osl,rfl,lk,hcd,_,_⟩:=F.ex
  refine ⟨len,fun A outer s H args us vs Q E hroom hg e0 hb r hsp=>?_⟩
  obtain ⟨G,so,as,QD,ED,hrep,wv,q,hq,hx⟩:=amQ hsp
  have hl:vs.length=ps.length:=wv.length.trans (len _ _ _ q)
  have KX:K.In s.heap:=e0.mod.kin.keeps fun b o e=>(e0.bs b o e).1
  have lim:s.heap.NoLimit:=e0.mod.nolimit.keeps fun b o e=>(e0.bs b o e).1
  have hkind:((ps.zip us).all fun y=>scope.names.lookup y.1 == some .local || scope.names.lookup y.1 == some .cell)=true:=by
    rw [List.all_eq_true]
    rintro ⟨n,u⟩ hy
    rcases S.par n (List.of_mem_zip hy).1 with z | z
    · show (scope.names.lookup n == some .local || _)=true
      rw [z];rfl
    · show (scope.names.lookup n == some .local || scope.names.lookup n == some .cell)=true
      rw [z];rfl
  refine Att.call_fn KX lim lk hcd hroom.depth hb hkind (fun s1 x=>?_) S.co S.gen S.kind
  have I:=inv_start (CX:=L2N.CX P w) (E:=E) S hroom.hd e0 hl r x
  have rep:Rep K G so (L2.start N vs) H (startD N as):=agy hrep wv (nsee _ _ _ q)
  have no:∀ a,¬ Own (startD N as) (L2.start N vs) a:=fun a ⟨i,o,e,_⟩=>by
    obtain ⟨_,_,_,n⟩:=wv.get (adm e)
    exact n o rfl
  have body:=(hd cdv A outer s H E (hroom.deeper _) hg).run [] s1 (L2.start N vs) H { nx:=fun _ H'=>Q .non H',rt:=Q } I ⟨G,so,startD N as,_,rep,hr as QD ED q,
    ⟨fun σ' H' G' sl' p z=>hq .non H' G' (.d .non) ⟨p.ex,p.rep.h,fun a o e sa=>p.keep a o e sa (no a),fun a n g sa=>p.frm a n g sa (no a),.non,fun _ _ e=>(nomatch e),fun _ e=>(nomatch e)⟩ (fun _ e=>(nomatch e)) z,
     fun _ _ _ _ _ z=>z.elim,fun _ _ _ _ _ z=>z.elim,
     fun v H' G' dv _ p z=>hq v H' G' dv ⟨p.ex,p.hrep,fun a o e sa=>p.keep a o e sa (no a),fun a n g sa=>p.frm a n g sa (no a),p.val,fun a o e e2=>(p.new a o e e2).elim (fun k=>k) fun k=>absurd k (no a),(alx z).1⟩ (aou z) (alx z).2,
     fun cls d σ' H' G' fs sl' p z1 z2=>hx cls d H' G' fs ⟨p.ex,p.rep.h,fun a o e sa=>p.keep a o e sa (no a),fun a n g sa=>p.frm a n g sa (no a)⟩ z1 z2⟩⟩
  refine wpAny_mono body (fun fl s' hs=>?_) fun e s' hs=>hs
  cases fl with
  | ret u=>
    obtain ⟨v,σ',H',J,rv,z⟩:=hs
    exact ⟨v,H',J.os,J.bare,J.base,J.hok,rv,z⟩
  | next=>
    obtain ⟨σ',H',J,z⟩:=hs
    exact ⟨.non,H',J.os,J.bare,J.base,J.hok,rfl,z⟩
  | brk=>
    obtain ⟨_,_,_,z⟩:=hs
    exact False.elim z
  | cont=>
    obtain ⟨_,_,_,z⟩:=hs
    exact False.elim z
inductive Sel where
  | pos (i:Nat) | kw (j:Nat) | dfl (v:V) (d:D)
def pickV (vs qs:List V):Sel->V
  | .pos i=>vs.getD i .non
  | .kw j=>qs.getD j .non
  | .dfl v _=>v
def pickD (vs qs:List DV):Sel->DV
  | .pos i=>vs.getD i (.d .non)
  | .kw j=>qs.getD j (.d .non)
  | .dfl _ d=>.d d
structure Bd (K:PySem.W.Frag) (fd:FuncData) (ps:List Str) (n:Nat) (ks:List Str) (sel:List Sel):Prop where
  to:∀ (s:Shared) (us ws:List Value) (vs qs:List V),K.In s.heap->us.length=n->ws.length=ks.length->Vals vs us->Vals qs ws->∃ zs,BindsTo s fd ⟨us,ks.zip ws⟩ (ps.zip zs)/\Vals (sel.map (pickV vs qs)) zs
  dok:∀ s∈sel,∀ (v:V) (d:D),s=.dfl v d->∀ G,DOk K G v d
theorem VsOk.getD {K:PySem.W.Frag} {G:Hp} {so:So} {H:Hp}:∀ {vs:List V} {ds:List DV} (i:Nat),VsOk K G so H vs ds->VOk K G so H (vs.getD i .non) (ds.getD i (.d .non))/\∀ o,ds.getD i (.d .non)≠.own o
  | _,_,_,.nil=>⟨.non,fun _ e=>(nomatch e)⟩
  | _,_,0,.cons h n _=>⟨h,n⟩
  | _,_,i + 1,.cons _ _ t=>VsOk.getD i t
theorem VsOk.pick {K:PySem.W.Frag} {G:Hp} {so:So} {H:Hp} {vs qs:List V} {ds es:List DV} (h:VsOk K G so H vs ds) (h2:VsOk K G so H qs es):∀ (sel:List Sel),(∀ s∈sel,∀ (v:V) (d:D),s=.dfl v d->∀ G,DOk K G v d)->VsOk K G so H (sel.map (pickV vs qs)) (sel.map (pickD ds es))
  | [],_=>.nil
  | .pos i::r,k=>.cons (h.getD i).1 (h.getD i).2 (VsOk.pick h h2 r fun s hs=>k s (List.mem_cons_of_mem _ hs))
  | .kw j::r,k=>.cons (h2.getD j).1 (h2.getD j).2 (VsOk.pick h h2 r fun s hs=>k s (List.mem_cons_of_mem _ hs))
  | .dfl v d::r,k=>.cons (k _ (List.mem_cons_self ..) v d rfl G) (fun _ e=>(nomatch e)) (VsOk.pick h h2 r fun s hs=>k s (List.mem_cons_of_mem _ hs))
def dCall (sp:SpD) (n m:Nat) (sel:List Sel) (ta tk:TDA):TD:=fun sl Q E=>ta sl (fun xs s1=>tk s1 (fun ys s2=>xs.length=n/\ys.length=m/\sp (sel.map (pickD xs ys)) (fun v=>Q v s2) fun cls fs=>E cls fs s2) E) E
def DK (X:Cx) (W:WX) (kws:List Keyword) (t:TDA):Prop:=PK X kws (upA X.K W t)
section
variable {X:Cx} {W:WX} {k n:Nat} {f:Addr} {fd:FuncData} {ps ks:List Str} {sp:SpD} {sel:List Sel} {x nm:Str} {p pos kpos:Pos} {e:Expr} {es:List Expr} {kws:List Keyword} {ta tk tk':TDA} {te:TD}
theorem anS {t t':TA} (h:PK X kws t) (g:∀ σ H R,t' σ H R->t σ H R):PK X kws t':=⟨fun pos pins s σ H Q I q=>h.run pos pins s σ H Q I (g _ _ _ q)⟩
theorem agU:DK X W [] dNil:=anS pk_nil fun σ H R ⟨G,so,sl,Q,E,rep,q,hq,_⟩=>hq [] H G [] sl (.refl rep) .nil q
theorem ae0 (ha:DE X W e te) (hr:DK X W kws tk):DK X W (⟨nm,e,kpos⟩::kws) (dCons te tk):=by
  refine anS (pk_cons ha hr) fun σ H R ⟨G,so,sl,Q,E,rep,q,hq,hx⟩=>?_
  refine ⟨G,so,sl,_,E,rep,q,fun x H1 G1 dx s1 p1 h1=>?_,hx⟩
  obtain ⟨G1',p1'⟩:=p1.pub
  refine ⟨G1',so,s1,_,E,p1'.rep,h1,fun vs H2 G2 ds s2 p2 w h2=>?_,hx.step p1'.toPost⟩
  exact hq (x::vs) H2 G2 (pubV dx::ds) s2 (p1'.toPost.trans p2) (.cons (p1'.over p2) (akj dx) w) h2
theorem ahY {pins:List (Addr × Obj)} {σ:L2.St} {H G:Hp} {so:So} {sl:DSt} {s:Shared} {Q:VK} {us ws:List Value} {vs qs:List V} {ds es:List DV} {Q':DV->DSt->Prop} {E:XP} (F:FnG X.prog X.w X.K X.mg X.base k f fd ps sp) (hr:Room k X.A) (hg:X.A.guards=some []) (tk:L2N.Takes X W) (hb:Bd X.K fd ps n ks sel)
    (I:Inv X pins σ H s) (rep:Rep X.K G so σ H sl) (r:Vals vs us) (r2:Vals qs ws) (w:VsOk X.K G so H vs ds) (w2:VsOk X.K G so H qs es) (l1:ds.length=n) (l2:es.length=ks.length)
    (q:sp (sel.map (pickD ds es)) (fun v=>Q' v sl) fun cls fs=>E cls fs sl) (hq:∀ v H' G' dv sl',PostE X.K G so σ H sl v H' G' dv sl'->Q' dv sl'->Q v H') (hx:XOk X.K W G so σ H sl E) :
    wpAny (model X.prog X.w) X.A (call (.ref f) us (ks.zip ws)) (EP X pins σ Q) X.xe s:=by
  obtain ⟨zs,bt,rz⟩:=hb.to s us ws vs qs I.kIn (by rw [<- r.length,w.length,l1]) (by rw [<- r2.length,w2.length,l2]) r r2
  have pk:=w.pick w2 sel hb.dok
  refine wpAny_call (codeAny_mono (F.run X.A X.stack s H ⟨us,ks.zip ws⟩ zs (sel.map (pickV vs qs)) Q (fun cls d H'=>W cls d σ H') hr hg I.env0 bt rz ⟨G,so,_,_,_,rep.h,pk,q,fun v H' G' dv pv z=>hq v H' G' dv sl (pv.slots rep) z,fun cls d H' G' fs ph z1 z2=>?_⟩) fun r s' hz=>?_)
  · have pn:PostV X.K G so H .non H' G' (.d .non):=⟨ph.ex,ph.hrep,ph.keep,ph.frm,.non,fun _ _ e=>(nomatch e),fun _ e=>(nomatch e)⟩
    exact hx cls d H' G' fs sl (pn.slots rep).toPost z1 z2
  · cases r with
    | error e=>exact tk e s' (L2N.XE.of_call I (fun _ _ _ z=>z) hz)
    | ok fl=>
      cases fl with
      | ret u=>exact I.after hz
      | next=>exact False.elim hz
      | brk=>exact False.elim hz
      | cont=>exact False.elim hz
theorem aag (F:FnG X.prog X.w X.K X.mg X.base k f fd ps sp) (hr:Room k X.A) (hgd:X.A.guards=some []) (tk:L2N.Takes X W) (hb:Bd X.K fd ps n [] sel) (hg:Gl X x) (hm:X.mg x=some (.ref f)) (hk:PySem.W.keepIn X.K (.ref f)=true)
    (ha:DA X W (e::es) ta) (hdb:(x == ("__debug__":Str))=false:=by decide) (he:starEach (e::es) X.env=(false,eval e X.env)::starEach es X.env:=by rfl) (hpl:(backTo pos (starEach es X.env)).any (·.1)=false:=by rfl) :
    DE X W (.Call (.Name x p) (e::es) [] pos) (dCall sp n 0 sel ta dNil):=by
  refine ⟨fun pins s σ H Q I ⟨G,so,sl,Q',E,rep,q,hq,hx⟩=>wpAny_Call_Name_kw (ld_glob I hg hm ?_ hdb)⟩
  refine PySem.W.callWith_K (h₀:=X.base) I.ok.mod.kin hk (thn (ha.run pos pins s σ H (fun vs H1=>∃ G1 ds s1,Post X.K G so σ H sl H1 G1 s1/\VsOk X.K G1 so H1 vs ds/\ds.length=n/\sp (sel.map (pickD ds [])) (fun v=>Q' v s1) fun cls fs=>E cls fs s1) I
    ⟨G,so,sl,_,E,rep,q,fun vs H1 G1 ds s1 p1 w z=>⟨G1,ds,s1,p1,w,z.1,z.2.2⟩,hx⟩) fun us s1 ⟨vs,H1,I1,r,G1,ds,sl1,p1,w,l1,z⟩=>⟨I1.kIn,?_⟩) he hpl
  exact ahY (ws:=[]) (qs:=[]) (es:=[]) F hr hgd tk hb I1 p1.rep r .nil w .nil l1 rfl z (fun v H' G' dv sl' pe z'=>hq v H' G' dv sl' (p1.thenE pe) z') (hx.step p1)
end
section
variable {X:Cx} {W:WX} {x:Str} {p pos:Pos} {e:Expr} {es:List Expr} {ta:TDA} {id T:String} {r:List V->Hp->VK->Prop} {rd:List DV->(DV->Prop)->Prop}
theorem aah (hc:CallR X (.builtin id) r) (hr:CallSem X.K r rd) (hg:Gl X x) (hm:X.mg x=none) (hv:bootBuiltins x=some (.builtin id)) (ha:DA X W (e::es) ta) (hn:x≠"__name__":=by decide) (hdb:(x == ("__debug__":Str))=false:=by decide)
    (he:starEach (e::es) X.env=(false,eval e X.env)::starEach es X.env:=by rfl) (hpl:(backTo pos (starEach es X.env)).any (·.1)=false:=by rfl):DE X W (.Call (.Name x p) (e::es) [] pos) (dCB rd ta):=aaD (pe_callB hc hg hm hv ha hn hdb he hpl) fun _ _ _ h=>aod hr h
theorem adY (hc:CallR X (.type T) r) (hr:CallSem X.K r rd) (hg:Gl X x) (hm:X.mg x=none) (hv:bootBuiltins x=some (.type T)) (ha:DA X W (e::es) ta) (hn:x≠"__name__":=by decide) (hdb:(x == ("__debug__":Str))=false:=by decide)
    (he:starEach (e::es) X.env=(false,eval e X.env)::starEach es X.env:=by rfl) (hpl:(backTo pos (starEach es X.env)).any (·.1)=false:=by rfl):DE X W (.Call (.Name x p) (e::es) [] pos) (dCB rd ta):=aaD (pe_callTy hc hg hm hv ha hn hdb he hpl) fun _ _ _ h=>aod hr h
theorem akF (hc:CallR X (.builtin id) r) (hr:CallSem X.K r rd) (hg:Gl X x) (hm:X.mg x=some (.builtin id)) (ha:DA X W (e::es) ta) (hdb:(x == ("__debug__":Str))=false:=by decide)
    (he:starEach (e::es) X.env=(false,eval e X.env)::starEach es X.env:=by rfl) (hpl:(backTo pos (starEach es X.env)).any (·.1)=false:=by rfl):DE X W (.Call (.Name x p) (e::es) [] pos) (dCB rd ta):=aaD (pe_callBfun hc hg hm ha hdb he hpl) fun _ _ _ h=>aod hr h
theorem ahn {T:String} (hg:Gl X x) (hm:X.mg x=none) (hv:bootBuiltins x=some (.type T)) (hn:x≠"__name__":=by decide) (hdb:(x == ("__debug__":Str))=false:=by decide):DE X W (.Name x pos) (dC (.raw (.ty T))):=de_c (pe_bltn (v:=.ty T) hg hm hv rfl hn hdb) fun _=>.raw _
theorem apn {v:V} {u:Value} {d:D} (hg:Gl X x) (hm:X.mg x=some u) (r:RelV v u) (hd:∀ G,DOk X.K G v d) (hdb:(x == ("__debug__":Str))=false:=by decide):DE X W (.Name x pos) (dC d):=de_c (pe_glob hg hm r hdb) hd
end
@[irreducible] def lenR:List DV->(DV->Prop)->Prop
  | [.d (.str z)],Q=>z.length<=szl/\Q (.d (.int z.length))
  | [.d (.tup ds)],Q=>Q (.d (.int ds.length))
  | [v],Q=>match v.items with
    | some ds=>Q (.d (.int ds.length))
    | none=>False
  | _,_=>False
@[irreducible] def intC:List DV->(DV->Prop)->Prop
  | [.d (.int i)],Q=>Q (.d (.int i))
  | _,_=>False
@[irreducible] def absR:List DV->(DV->Prop)->Prop
  | [.d (.int i)],Q=>Q (.d (.int (if i < 0 then -i else i)))
  | _,_=>False
@[irreducible] def strR:List DV->(DV->Prop)->Prop
  | [.d (.int i)],Q=>i.natAbs.log2 < 1920/\Q (.d (.str (toString i)))
  | _,_=>False
@[irreducible] def listR:List DV->(DV->Prop)->Prop
  | [.d (.tup ds)],Q=>Q (.own (.lst ds))
  | [v],Q=>match v.items with
    | some ds=>Q (.own (.lst ds))
    | none=>False
  | _,_=>False
def bools:List D->Option (List Bool)
  | []=>some []
  | .bl b::r=>(bools r).map (b::·)
  | _=>none
@[irreducible] def allR:List DV->(DV->Prop)->Prop
  | [v],Q=>match v.items with
    | some ds=>match bools ds with
      | some bs=>Q (.d (.bl (bs.all id)))
      | none=>False
    | none=>False
  | _,_=>False
@[irreducible] def gcdR:List DV->(DV->Prop)->Prop
  | [.d (.int i),.d (.int j)],Q=>Q (.d (.int (Int.gcd i j)))
  | _,_=>False
section
variable {K:PySem.W.Frag} {X:Cx}
def rLen1 (K:PySem.W.Frag):List V->Hp->VK->Prop:=fun xs H Q=>∃ x n,xs=[x]/\LenV K x H n/\Q (.int n) H
theorem aa0:CallSem K (rLen1 K) lenR:=by
  intro G so H xs dxs Q R h w q k
  unfold lenR at q
  split at q
  · obtain ⟨v,rfl,w1,_⟩:=w.v1
    cases w1
    exact ⟨_,_,rfl,⟨by rw [<- acM];exact q.1,rfl⟩,k _ H G _ (.dat h (.int _)) q.2⟩
  · obtain ⟨v,rfl,w1,_⟩:=w.v1
    obtain ⟨a,vs,rfl,g1,a1⟩:=VOk.tup h w1
    exact ⟨_,_,rfl,.inr ⟨vs,g1,rfl⟩,k _ H G _ (.dat h (by rw [a1.length];exact .int _)) q⟩
  · obtain ⟨v,rfl,w1,_⟩:=w.v1
    split at q
    · rename_i e
      obtain ⟨a,vs,rfl,g1,a1⟩:=VOk.list h w1 e
      exact ⟨_,_,rfl,.inl ⟨vs,SqL.of g1,rfl⟩,k _ H G _ (.dat h (by rw [a1.length];exact .int _)) q⟩
    · exact q.elim
  · exact q.elim
theorem aoj:CallSem K (fun xs H Q=>(∃ i,xs=[.int i]/\Q (.int i) H)\/∃ k,xs=[.bl k]/\Q (.int (if k then 1 else 0)) H) intC:=by
  intro G so H xs dxs Q R h w q k
  unfold intC at q
  split at q
  · obtain ⟨v,rfl,w1,_⟩:=w.v1
    cases w1
    exact .inl ⟨_,rfl,k _ H G _ (.dat h (.int _)) q⟩
  · exact q.elim
theorem aon:CallSem K (fun xs H Q=>∃ i,xs=[.int i]/\Q (.int (if i < 0 then -i else i)) H) absR:=by
  intro G so H xs dxs Q R h w q k
  unfold absR at q
  split at q
  · obtain ⟨v,rfl,w1,_⟩:=w.v1
    cases w1
    exact ⟨_,rfl,k _ H G _ (.dat h (.int _)) q⟩
  · exact q.elim
theorem alh:CallSem K (fun xs H Q=>∃ i,xs=[.int i]/\i.natAbs.log2 < 1920/\Q (.str (toString i)) H) strR:=by
  intro G so H xs dxs Q R h w q k
  unfold strR at q
  split at q
  · obtain ⟨v,rfl,w1,_⟩:=w.v1
    cases w1
    exact ⟨_,rfl,q.1,k _ H G _ (.dat h (.str _)) q.2⟩
  · exact q.elim
theorem ake:CallSem K (fun xs H Q=>∃ p ys,xs=[.ref p]/\(SqL K H p ys\/SqT K H p ys)/\∀ l,H l=none->Q (.ref l) (upd H l (.lst ys))) listR:=by
  intro G so H xs dxs Q R h w q k
  unfold listR at q
  split at q
  · obtain ⟨v,rfl,w1,_⟩:=w.v1
    obtain ⟨a,vs,rfl,g1,a1⟩:=VOk.tup h w1
    exact ⟨a,vs,rfl,.inr g1,fun l n=>k _ _ G _ (.list h n a1) q⟩
  · obtain ⟨v,rfl,w1,_⟩:=w.v1
    split at q
    · rename_i e
      obtain ⟨a,vs,rfl,g1,a1⟩:=VOk.list h w1 e
      exact ⟨a,vs,rfl,.inl (SqL.of g1),fun l n=>k _ _ G _ (.list h n a1) q⟩
    · exact q.elim
  · exact q.elim
theorem aiv {G:Hp}:∀ {vs:List V} {ds:List D} {bs:List Bool},DAll K G vs ds->bools ds=some bs->vs=bs.map V.bl
  | _,_,_,.nil,e=>by cases e;rfl
  | _,_,_,.cons (d:=.bl b) h t,e=>by
    unfold bools at e
    rename_i ds0
    cases z:bools ds0 with
    | none=>rw [z] at e;cases e
    | some ys=>rw [z] at e;cases e;cases h;rw [aiv t z];rfl
  | _,_,_,.cons (d:=.non) h t,e=>by cases e
  | _,_,_,.cons (d:=.int _) h t,e=>by cases e
  | _,_,_,.cons (d:=.str _) h t,e=>by cases e
  | _,_,_,.cons (d:=.lst _) h t,e=>by cases e
  | _,_,_,.cons (d:=.tup _) h t,e=>by cases e
  | _,_,_,.cons (d:=.ins _ _) h t,e=>by cases e
  | _,_,_,.cons (d:=.raw _) h t,e=>by cases e
  | _,_,_,.cons (d:=.kt _) h t,e=>by cases e
theorem alr:CallSem K (rAll K) allR:=by
  intro G so H xs dxs Q R h w q k
  unfold allR at q
  split at q
  · obtain ⟨v,rfl,w1,_⟩:=w.v1
    split at q
    · rename_i e
      obtain ⟨a,vs,rfl,g1,a1⟩:=VOk.list h w1 e
      split at q
      · rename_i bs eb
        exact ⟨a,bs,rfl,by rw [<- aiv a1 eb];exact SqL.of g1,k _ H G _ (.dat h (.bl _)) q⟩
      · exact q.elim
    · exact q.elim
  · exact q.elim
theorem alp:CallSem K rGcd gcdR:=by
  intro G so H xs dxs Q R h w q k
  unfold gcdR at q
  split at q
  · obtain ⟨v,v',rfl,w1,w2,_⟩:=w.v2
    cases w1;cases w2
    exact ⟨_,_,rfl,k _ H G _ (.dat h (.int _)) q⟩
  · exact q.elim
def tyD:D->Option String
  | .non=>some "NoneType"
  | .bl _=>some "bool"
  | .int _=>some "int"
  | .str _=>some "str"
  | .lst _=>some "list"
  | .tup _=>some "tuple"
  | .kt _=>some "tuple"
  | _=>none
@[irreducible] def isiR:List DV->(DV->Prop)->Prop
  | [v,.d (.raw (.ty T))],Q=>match v.dat with
    | some d=>match tyD d with
      | some t=>match kitB t T with
        | some b=>Q (.d (.bl b))
        | none=>False
      | none=>False
    | none=>False
  | _,_=>False
theorem amR {G H:Hp} {so:So} {v:V} {dv:DV} {d:D} {t:String} (h:HRep K G so H) (w:VOk K G so H v dv) (e:dv.dat=some d) (q:tyD d=some t):TyX K H v (.type t):=by
  have own:∀ {a:Addr} {o:OO},OwnOk K G H a o->tyD (pubO o)=some t->TyX K H (.ref a) (.type t):=fun {a o} k q=>by
    cases o with
    | lst ds=>obtain ⟨vs,e1,_⟩:=k;cases q;exact .base (.lst e1)
    | ins x C fs=>cases q
    | dk _=>cases q
    | dt _=>cases q
  cases dv with
  | src=>cases e
  | mu _ _ _=>cases e
  | gh _ _=>cases e
  | own o=>cases e;obtain ⟨a,rfl,_,_,k⟩:=w;exact own k q
  | bor o=>
    cases e;obtain ⟨a,rfl,_,k⟩:=w
    cases o with
    | lst ds=>exact own (o:=.lst ds) k q
    | ins x C fs=>cases q
    | dk _=>cases q
    | dt _=>cases q
  | see o=>cases e;obtain ⟨a,rfl,_,k⟩:=w;exact own k q
  | d x=>
    cases e
    cases w with
    | non=>cases q;exact .base .non
    | bl b=>cases q;exact .base (.bl b)
    | int i=>cases q;exact .base (.int i)
    | str z=>cases q;exact .base (.str z)
    | lst g _=>cases q;exact .base (.lst (h.ex _ _ g))
    | tup g _=>
      cases q
      rcases g with (g | ⟨o,g⟩) | ⟨o,its,n,g,c,_⟩
      · exact .base (.tup (h.ex _ _ g))
      · exact .fTuple (h.ex _ _ g)
      · exact .kTuple g c
    | ins _ _ _=>cases q
    | dk _=>cases q
    | dt _=>cases q
    | any _=>cases q
    | raw _=>cases q
    | kt g=>cases q;exact .base (.tup (h.ex _ _ g))
theorem afu:CallSem K (rIsi K) isiR:=by
  intro G so H xs dxs Q R h w q k
  unfold isiR at q
  split at q
  · obtain ⟨v,v',rfl,w1,w2,_⟩:=w.v2
    cases w2
    split at q
    · rename_i d e
      split at q
      · rename_i t et
        split at q
        · rename_i b eb
          exact ⟨_,_,_,_,b,rfl,.ty _,amR h w1 e et,kit_ty eb,k _ H G _ (.dat h (.bl _)) q⟩
        · exact q.elim
      · exact q.elim
    · exact q.elim
  · exact q.elim
def flatD:D->Bool
  | .non=>true
  | .bl _=>true
  | .int _=>true
  | .str _=>true
  | _=>false
def eqF:D->D->Bool
  | .non,.non=>true
  | .bl a,.bl b=>a == b
  | .bl a,.int b=>(if a then 1 else 0) == b
  | .int a,.bl b=>a == (if b then 1 else 0)
  | .int a,.int b=>a == b
  | .str a,.str b=>a == b
  | _,_=>false
def inF (x:D) (ds:List D):Bool:=ds.any fun y=>eqF y x
@[irreducible] def inSeqR (neg:Bool):DV->DV->(DV->Prop)->Prop
  | .d x,.d (.tup ds),Q=>flatD x=true/\ds.all flatD=true/\Q (.d (.bl (if neg then !inF x ds else inF x ds)))
  | .d x,y,Q=>match y.items with
    | some ds=>flatD x=true/\ds.all flatD=true/\Q (.d (.bl (if neg then !inF x ds else inF x ds)))
    | none=>False
  | _,_,_=>False
@[irreducible] def inR (neg:Bool):DV->DV->(DV->Prop)->Prop
  | .d (.str w),.d (.str z),Q=>match w.cps.toList with
    | [c]=>Q (.d (.bl (if neg then !decide (c∈z.cps.toList) else decide (c∈z.cps.toList))))
    | _=>False
  | x,y,Q=>inSeqR neg x y Q
theorem ajW {G:Hp} {v:V} {d:D} (w:DOk K G v d) (f:flatD d=true):flatV v=true:=by
  cases w<;>first | rfl | (exact absurd f (by simp [flatD]))
theorem aqn {G:Hp} {v u:V} {d e:D} (w:DOk K G v d) (w2:DOk K G u e) (f:flatD d=true) (f2:flatD e=true):eqV v u=eqF d e:=by
  cases w<;>cases w2<;>first | rfl | (exfalso;revert f f2;simp [flatD];done)
theorem ain {G:Hp}:∀ {vs:List V} {ds:List D},DAll K G vs ds->ds.all flatD=true->vs.all flatV=true
  | _,_,.nil,_=>rfl
  | _,_,.cons h t,f=>by
    rw [List.all_cons,Bool.and_eq_true] at f
    rw [List.all_cons,ajW h f.1,ain t f.2];rfl
theorem ao5 {G:Hp} {v:V} {x:D} (w:DOk K G v x) (f:flatD x=true):∀ {vs:List V} {ds:List D},DAll K G vs ds->ds.all flatD=true->inV v vs=inF x ds
  | _,_,.nil,_=>rfl
  | _,_,.cons h t,g=>by
    rw [List.all_cons,Bool.and_eq_true] at g
    have ih:=ao5 w f t g.2
    unfold inV inF at ih ⊢
    rw [List.any_cons,List.any_cons,aqn h w g.1 f,ih]
theorem aln (neg:Bool):OpSem K (rIn K neg) (inSeqR neg):=by
  intro G so H x y dx dy Q R h wx wy q k
  unfold inSeqR at q
  split at q
  · obtain ⟨a,vs,rfl,g1,a1⟩:=VOk.tup h wy
    exact ⟨a,vs,rfl,.inr g1,ajW wx q.1,ain a1 q.2.1,by rw [ao5 wx q.1 a1 q.2.1];exact k _ H G _ (.dat h (.bl _)) q.2.2⟩
  · split at q
    · rename_i e
      obtain ⟨a,vs,rfl,g1,a1⟩:=VOk.list h wy e
      exact ⟨a,vs,rfl,.inl (SqL.of g1),ajW wx q.1,ain a1 q.2.1,by rw [ao5 wx q.1 a1 q.2.1];exact k _ H G _ (.dat h (.bl _)) q.2.2⟩
    · exact q.elim
  · exact q.elim
def rInAll (K:PySem.W.Frag):R2:=fun x y H Q=>(∃ (c:Nat) (z:Str),x=.str ⟨#[c]⟩/\y=.str z/\Q (.bl (decide (c∈z.cps.toList))) H)\/rIn K false x y H Q
theorem ah3:OpR X (compareOp .In) (rInAll X.K):=OpR.or op_in_sign op_in_seq
theorem am8 {w:Str} {c:Nat} (e:w.cps.toList=[c]):w=⟨#[c]⟩:=by
  obtain ⟨a⟩:=w
  have:a=#[c]:=by
    apply Array.toList_inj.mp
    exact e
  rw [this]
theorem alo:OpSem K (rInAll K) (inR false):=by
  intro G so H x y dx dy Q R h wx wy q k
  unfold inR at q
  split at q
  · split at q
    · rename_i c e
      cases wx;cases wy
      exact .inl ⟨c,_,by rw [am8 e],rfl,k _ H G _ (.dat h (.bl _)) q⟩
    · exact q.elim
  · exact .inr (aln false G so H x y dx dy Q R h wx wy q k)
@[irreducible] def ixR:DV->DV->(DV->Prop)->Prop
  | .d (.tup ds),.d (.int i),Q=>match atI ds i with
    | some d=>Q (.d d)
    | none=>False
  | .d (.str z),.d (.int i),Q=>z.length<=szl/\match atI z.cps.toList i with
    | some c=>Q (.d (.str ⟨#[c]⟩))
    | none=>False
  | v,.d (.int i),Q=>match v.items with
    | some ds=>match atI ds i with
      | some d=>Q (.d d)
      | none=>False
    | none=>False
  | _,_,_=>False
theorem an9 {G:Hp} {vs:List V} {ds:List D} {i:Int} {d:D} (a:DAll K G vs ds) (e:atI ds i=some d):∃ v,atI vs i=some v/\DOk K G v d:=by
  unfold atI at e ⊢
  rw [a.length]
  cases z:ixN ds.length i with
  | none=>rw [z] at e;cases e
  | some j=>rw [z] at e;exact a.get e
theorem aai:OpSem K (rIx K) ixR:=by
  intro G so H x y dx dy Q R h wx wy q k
  unfold ixR at q
  split at q
  · split at q
    · rename_i e
      obtain ⟨a,vs,rfl,g1,a1⟩:=VOk.tup h wx
      cases wy
      obtain ⟨v,e1,e2⟩:=an9 a1 e
      exact .inr (.inl ⟨a,vs,_,v,rfl,rfl,g1,e1,k _ H G _ (.dat h e2) q⟩)
    · exact q.elim
  · cases wx;cases wy
    obtain ⟨q1,q⟩:=q
    split at q
    · rename_i e
      exact .inr (.inr ⟨_,_,_,rfl,rfl,by rw [<- acM];exact q1,e,k _ H G _ (.dat h (.str _)) q⟩)
    · exact q.elim
  · split at q
    · rename_i e
      split at q
      · rename_i e0
        obtain ⟨a,vs,rfl,g1,a1⟩:=VOk.list h wx e
        cases wy
        obtain ⟨v,e1,e2⟩:=an9 a1 e0
        exact .inl ⟨a,vs,_,v,rfl,rfl,SqL.of g1,e1,k _ H G _ (.dat h e2) q⟩
      · exact q.elim
    · exact q.elim
  · exact q.elim
end
abbrev TDO:=DSt->(Option Int->DSt->Prop)->XP->Prop
def dNoPart:TDO:=fun sl Q _=>Q none sl
def dPart (te:TD):TDO:=fun sl Q E=>te sl (fun x s1=>match x with
  | .d (.int i)=>Q (some i) s1
  | _=>False) E
def upO (K:PySem.W.Frag) (W:WX) (t:TDO):TO:=fun σ H R=>∃ G so sl Q E,Rep K G so σ H sl/\t sl Q E/\(∀ o H' G' sl',Post K G so σ H sl H' G' sl'->Q o sl'->R o H')/\XOk K W G so σ H sl E
def DO' (X:Cx) (W:WX) (e:Option Expr) (t:TDO):Prop:=PO X e (upO X.K W t)
def cut {α:Type} (xs:List α) (lo hi:Option Int):List α:=(xs.drop (HT.sIx xs.length 0 lo)).take (HT.sIx xs.length xs.length hi - HT.sIx xs.length 0 lo)
@[irreducible] def slR (v:DV) (lo hi:Option Int) (Q:DV->Prop):Prop:=match v with
  | .d (.tup ds)=>Q (.d (.tup (cut ds lo hi)))
  | .d (.str z)=>z.length<=szl/\Q (.d (.str (cutS z lo hi)))
  | v=>match v.items with
    | some ds=>Q (.own (.lst (cut ds lo hi)))
    | none=>False
def dSl (te:TD) (tl th:TDO):TD:=fun sl Q E=>te sl (fun x s1=>tl s1 (fun lo s2=>th s2 (fun hi s3=>slR x lo hi fun z=>Q z s3) E) E) E
section
variable {X:Cx} {W:WX} {e:Expr} {te:TD} {tl th:TDO} {pos p2:Pos} {lo hi:Option Expr} {K:PySem.W.Frag}
theorem anP {o:Option Expr} {t t':TO} (h:PO X o t) (f:∀ σ H R,t' σ H R->t σ H R):PO X o t':=⟨fun pins s σ H Q I q=>h.run pins s σ H Q I (f _ _ _ q)⟩
theorem aeq:DO' X W none dNoPart:=anP po_none fun σ H R ⟨G,so,sl,Q,E,rep,q,hq,hx⟩=>hq none H G sl (.refl rep) q
theorem aep (h:DE X W e te):DO' X W (some e) (dPart te):=anP (po_some h) fun σ H R ⟨G,so,sl,Q,E,rep,q,hq,hx⟩=>⟨G,so,sl,_,E,rep,q,fun v H1 G1 dv s1 p q1=>by
    split at q1
    · have w:=p.val
      cases w
      exact ⟨_,rfl,hq _ H1 G1 s1 p.toPost q1⟩
    · exact q1.elim,hx⟩
theorem amE {G:Hp} {vs:List V} {ds:List D} {lo hi:Option Int} (a:DAll K G vs ds):DAll K G (cutV vs lo hi) (cut ds lo hi):=by
  unfold cutV cut
  rw [a.length]
  exact (a.drop _).take _
def rSlAll (K:PySem.W.Frag):V->Option Int->Option Int->Hp->VK->Prop:=fun x lo hi H Q=>rSlA K x lo hi H Q\/(rSlS x lo hi H Q\/rSlL K x lo hi H Q)
theorem apG:SlR X (rSlAll X.K):=SlR.or sl_tupA (SlR.or sl_str sl_list)
theorem amD {α:Type} {xs:List α} {lo hi:Option Int} (h:HT.sIx xs.length 0 lo=0/\HT.sIx xs.length xs.length hi=xs.length):cut xs lo hi=xs:=by
  unfold cut
  rw [h.1,h.2]
  simp
theorem apH {G:Hp} {so:So} {H:Hp} {x:V} {dx:DV} {lo hi:Option Int} {Q:DV->Prop} {R:VK} (h:HRep K G so H) (w:VOk K G so H x dx) (q:slR dx lo hi Q) (k:∀ v H' G' dv,PostV K G so H v H' G' dv->Q dv->R v H'):rSlAll K x lo hi H R:=by
  unfold slR at q
  split at q
  · obtain ⟨a,vs,rfl,g1,a1⟩:=VOk.tup h w
    refine .inl ⟨a,vs,rfl,g1,fun z=>?_,fun _ p n=>k _ _ _ _ (.tuple h n (amE a1)) q⟩
    rw [a1.length] at z
    rw [amD z] at q
    exact k _ H G _ (.dat h w) q
  · cases w
    exact .inr (.inl ⟨_,rfl,by rw [<- acM];exact q.1,k _ H G _ (.dat h (.str _)) q.2⟩)
  · split at q
    · rename_i e
      obtain ⟨a,vs,rfl,g1,a1⟩:=VOk.list h w e
      exact .inr (.inr ⟨a,vs,rfl,SqL.of g1,fun p n=>k _ _ _ _ (.list h n (amE a1)) q⟩)
    · exact q.elim
theorem ajo (he:DE X W e te) (hl:DO' X W lo tl) (hh:DO' X W hi th):DE X W (.Subscript e (.Slice lo hi none p2) pos) (dSl te tl th):=aaD (pe_slice apG he hl hh) fun σ H R ⟨G,so,sl,Q,E,rep,q,hq,hx⟩=>by
  refine ⟨G,so,sl,_,E,rep,q,fun x H1 G1 dx s1 p1 q1=>?_,hx⟩
  refine ⟨G1,so,s1,_,E,p1.rep,q1,fun o1 H2 G2 s2 p2 q2=>?_,hx.step p1.toPost⟩
  refine ⟨G2,so,s2,_,E,p2.rep,q2,fun o2 H3 G3 s3 p3 q3=>?_,hx.step (p1.toPost.trans p2)⟩
  have p23:=p2.trans p3
  exact apH p3.rep.h (p1.over p23) q3 fun v H' G' dv pv hz=>hq v H' G' dv s3 ((p1.toPost.trans p23).thenV pv) hz
end
def strsD:List D->Option (List Str)
  | []=>some []
  | .str s::r=>(strsD r).map (s::·)
  | _=>none
theorem agq {K:PySem.W.Frag} {G:Hp}:∀ {vs:List V} {ds:List D} {ss:List Str},DAll K G vs ds->strsD ds=some ss->vs=ss.map V.str
  | _,_,_,.nil,e=>by cases e;rfl
  | _,_,_,.cons (d:=.str b) h t,e=>by
    unfold strsD at e
    rename_i ds0
    cases z:strsD ds0 with
    | none=>rw [z] at e;cases e
    | some ys=>rw [z] at e;cases e;cases h;rw [agq t z];rfl
  | _,_,_,.cons (d:=.non) h t,e=>by cases e
  | _,_,_,.cons (d:=.int _) h t,e=>by cases e
  | _,_,_,.cons (d:=.bl _) h t,e=>by cases e
  | _,_,_,.cons (d:=.lst _) h t,e=>by cases e
  | _,_,_,.cons (d:=.tup _) h t,e=>by cases e
  | _,_,_,.cons (d:=.ins _ _) h t,e=>by cases e
  | _,_,_,.cons (d:=.raw _) h t,e=>by cases e
  | _,_,_,.cons (d:=.kt _) h t,e=>by cases e
def seqD:DV->Option (List D)
  | .d (.tup ds)=>some ds
  | v=>v.items
@[irreducible] def joinR:DV->DV->(DV->Prop)->Prop
  | .d (.str a),y,Q=>match seqD y with
    | some ds=>match strsD ds with
      | some ss=>(ss.map (·.length)).sum + ss.length * a.length<=16777216/\Q (.d (.str (Txt.join a ss)))
      | none=>False
    | none=>False
  | _,_,_=>False
section
variable {X:Cx} {W:WX} {o e:Expr} {to te:TD} {apos pos:Pos}
theorem aj0 (ho:DE X W o to) (he:DE X W e te) (hs:starEach [e] X.env=[(false,eval e X.env)]:=by rfl) (hbase:attributeBase o "join" X.env (eval o X.env)=eval o X.env:=by rfl) (hline:(apos.endLine == pos.line)=true:=by rfl) :
    DE X W (.Call (.Attribute o "join" apos) [e] [] pos) (fun sl Q E=>to sl (fun x s1=>(∃ a,x=.d (.str a))/\te s1 (fun y s2=>joinR x y fun z=>Q z s2) E) E):=aaD (pe_join ho he hs hbase hline) fun σ H R ⟨G,so,sl,Q,E,rep,q,hq,hx⟩=>by
  refine ⟨G,so,sl,_,E,rep,q,fun x H1 G1 dx s1 p1 ⟨⟨a,ea⟩,h1⟩=>⟨?_,?_⟩,hx⟩
  · have w:=p1.val
    rw [ea] at w
    cases w;exact ⟨a,rfl⟩
  · refine ⟨G1,so,s1,_,E,p1.rep,h1,fun y H2 G2 dy s2 p2 h2=>?_,hx.step p1.toPost⟩
    have w1:=p1.over p2.toPost
    have w2:=p2.val
    have fin:=fun (z:Str) (qz:Q (.d (.str z)) s2)=>hq _ H2 G2 _ s2 ((p1.toPost.trans p2.toPost).thenV (.dat p2.rep.h (.str z))) qz
    rw [ea] at w1 h2
    cases w1
    unfold joinR at h2
    change (match seqD dy with | some ds=>(match strsD ds with | some ss=>(ss.map (·.length)).sum + ss.length * a.length<=16777216/\Q (.d (.str (Txt.join a ss))) s2 | none=>False) | none=>False) at h2
    split at h2
    · rename_i ds ed
      split at h2
      · rename_i ss es
        unfold seqD at ed
        split at ed
        · cases ed
          obtain ⟨b,vs,rfl,g1,a1⟩:=VOk.tup p2.rep.h w2
          exact ⟨_,b,ss,rfl,rfl,.inr (by rw [<- agq a1 es];exact g1),h2.1,fin _ h2.2⟩
        · obtain ⟨b,vs,rfl,g1,a1⟩:=VOk.list p2.rep.h w2 ed
          exact ⟨_,b,ss,rfl,rfl,.inl (by rw [<- agq a1 es];exact SqL.of g1),h2.1,fin _ h2.2⟩
      · exact h2.elim
    · exact h2.elim
end
def rReprD (K:PySem.W.Frag):List V->Hp->VK->Prop:=fun xs H Q=>∃ (a:Addr) (d:PyData),xs=[.ref a]/\Dp K H (.ref a) d/\SeqAt.shaped d=true/\d.showable=true/\d.shown.length<=sizeLine/\Q (.str d.shown) H
theorem ahL {X:Cx} (hg:X.A.guards=some []) (hu:X.A.units + 65 < cLine):CallR X (.builtin "repr") (rReprD X.K):=by
  intro pins s σ H xs us Q I r h
  obtain ⟨a,d,rfl,hd,hs,hw,hz,q⟩:=h
  obtain ⟨u,rfl,ru⟩:=vals1 r
  cases ru
  obtain ⟨as,rd⟩:=Dp.reads I d _ _ hd (show RelV (.ref a) (.ref a) from rfl)
  have dd:=SeqAt.depth_of_shaped hs
  exact repr_of_reads' rd hw (PyData.noDict_hsm (PyData.hasDict_of_canLay _ (SeqAt.canLay_of_shaped hs))) hg (by omega) (fun _ _ e=>e) (fun h' u tk hk=>⟨.str d.shown,H,I.kept hk,⟨_,rfl⟩,q⟩) hz
@[irreducible] def reprR:List DV->(DV->Prop)->Prop
  | [v],Q=>match v.dat with
    | some (.lst ds)=>match (D.lst ds).py with
      | some p=>SeqAt.shaped p=true/\p.showable=true/\p.shown.length<=szl/\Q (.d (.str p.shown))
      | none=>False
    | some (.tup ds)=>match (D.tup ds).py with
      | some p=>SeqAt.shaped p=true/\p.showable=true/\p.shown.length<=szl/\Q (.d (.str p.shown))
      | none=>False
    | _=>False
  | _,_=>False
theorem an7 {K:PySem.W.Frag} {G H:Hp} {so:So} {v:V} {dv:DV} {d:D} (w:VOk K G so H v dv) (e:dv.dat=some d) (h:(∃ ds,d=.lst ds)\/∃ ds,d=.tup ds):∃ a,v=.ref a:=by
  cases dv with
  | src=>cases e
  | mu _ _ _=>cases e
  | gh _ _=>cases e
  | own o=>obtain ⟨a,q,_⟩:=w;exact ⟨a,q⟩
  | bor o=>obtain ⟨a,q,_⟩:=w;exact ⟨a,q⟩
  | see o=>obtain ⟨a,q,_⟩:=w;exact ⟨a,q⟩
  | d x=>
    cases e
    rcases h with ⟨ds,rfl⟩ | ⟨ds,rfl⟩
    · cases w;exact ⟨_,rfl⟩
    · cases w;exact ⟨_,rfl⟩
theorem akd {K:PySem.W.Frag}:CallSem K (rReprD K) reprR:=by
  intro G so H xs dxs Q R h w q k
  unfold reprR at q
  split at q
  · obtain ⟨v,rfl,w1,_⟩:=w.v1
    split at q
    · rename_i ds e
      split at q
      · rename_i p ep
        obtain ⟨a,rfl⟩:=an7 w1 e (.inl ⟨ds,rfl⟩)
        exact ⟨a,p,rfl,w1.dp h e ep,q.1,q.2.1,by rw [<- acM];exact q.2.2.1,k _ H G _ (.dat h (.str _)) q.2.2.2⟩
      · exact q.elim
    · rename_i ds e
      split at q
      · rename_i p ep
        obtain ⟨a,rfl⟩:=an7 w1 e (.inr ⟨ds,rfl⟩)
        exact ⟨a,p,rfl,w1.dp h e ep,q.1,q.2.1,by rw [<- acM];exact q.2.2.1,k _ H G _ (.dat h (.str _)) q.2.2.2⟩
      · exact q.elim
    · exact q.elim
  · exact q.elim
structure FnR (P:Program) (w:World) (K:PySem.W.Frag) (mg:Str->Option Value) (base:Heap) (k:Nat) (f:Addr) (fd:FuncData) (ps:List Str) (sp:Sp):Prop where
  len:∀ vs H Q E,sp vs H Q E->vs.length=ps.length
  run:∀ (A:Around) (outer:List Env) (s:Shared) (H:Hp) (args:Args) (us:List Value) (vs:List V) (Q:VK) (E:XK),Room k A->A.guards=some []->Env0 P w K mg base A outer s H->BindsTo s fd args (ps.zip us)->Vals vs us->sp vs H Q E->
    codeAny (model P w) A (.call (.ref f) args) (CR (L2N.CX P w) outer P w H s Q E) s
theorem akC {P:Program} {w:World} {K:PySem.W.Frag} {mg:Str->Option Value} {base:Heap} {x qual:Str} {params:Arguments} {body:List Stmt} {scope:Scope} {dvs:List V} {kws:List (Str × V)} {f:Addr} {fd:FuncData} {N ps:List Str} {k:Nat} {sp:Sp}
    (F:FunD K x qual params body scope dvs kws f fd) (S:FnScope N ps scope) (len:∀ vs H Q E,sp vs H Q E->vs.length=ps.length)
    (hd:∀ (cdv:Value) (A:Around) (outer:List Env) (s:Shared) (H:Hp) (vs:List V) (Q:VK) (E:XK),Room k (A.deeper (envOfC qual scope s.heap.objs.size f cdv))->(cxOf (L2N.CX P w) P w K mg base N qual scope f cdv A outer s H E).A.guards=some []->sp vs H Q E->
      ∃ t,PSs (cxOf (L2N.CX P w) P w K mg base N qual scope f cdv A outer s H E) body t/\t { nx:=fun _ H'=>Q .non H',rt:=Q } (L2.start N vs) H):FnR P w K mg base (k + 1) f fd ps sp:=by
  obtain ⟨oc,od,dV,kV,doc,pm,an,cdv,ct,osl,rfl,lk,hcd,_,_⟩:=F.ex
  refine ⟨len,fun A outer s H args us vs Q E hroom hg e0 hb r hsp=>?_⟩
  have KX:K.In s.heap:=e0.mod.kin.keeps fun b o e=>(e0.bs b o e).1
  have lim:s.heap.NoLimit:=e0.mod.nolimit.keeps fun b o e=>(e0.bs b o e).1
  have hkind:((ps.zip us).all fun y=>scope.names.lookup y.1 == some .local || scope.names.lookup y.1 == some .cell)=true:=by
    rw [List.all_eq_true]
    rintro ⟨n,u⟩ hy
    rcases S.par n (List.of_mem_zip hy).1 with z | z
    · show (scope.names.lookup n == some .local || _)=true
      rw [z];rfl
    · show (scope.names.lookup n == some .local || scope.names.lookup n == some .cell)=true
      rw [z];rfl
  refine Att.call_fn KX lim lk hcd hroom.depth hb hkind (fun s1 x=>?_) S.co S.gen S.kind
  have I:=inv_start (CX:=L2N.CX P w) (E:=E) S hroom.hd e0 (len _ _ _ _ hsp) r x
  obtain ⟨t,pt,qt⟩:=hd cdv A outer s H vs Q E (hroom.deeper _) hg hsp
  refine wpAny_mono (pt.run [] s1 (L2.start N vs) H _ I qt) (fun fl s' hs=>?_) fun e s' hs=>hs
  cases fl with
  | ret u=>
    obtain ⟨v,σ',H',J,rv,z⟩:=hs
    exact ⟨v,H',J.os,J.bare,J.base,J.hok,rv,z⟩
  | next=>
    obtain ⟨σ',H',J,z⟩:=hs
    exact ⟨.non,H',J.os,J.bare,J.base,J.hok,rfl,z⟩
  | brk=>obtain ⟨_,_,_,z⟩:=hs;exact False.elim z
  | cont=>obtain ⟨_,_,_,z⟩:=hs;exact False.elim z
theorem FnR.g {P:Program} {w:World} {K:PySem.W.Frag} {mg:Str->Option Value} {base:Heap} {k:Nat} {f:Addr} {fd:FuncData} {ps:List Str} {sp:SpD} (F:FnR P w K mg base k f fd ps (upSp K sp)) (len:∀ args Q E,sp args Q E->args.length=ps.length):FnG P w K mg base k f fd ps sp:=⟨len,F.run⟩
theorem am5 {X:Cx} {k:Nat} {f:Addr} {fd:FuncData} {ps:List Str} {sp:Sp} {x:Str} {p pos:Pos} {e:Expr} {es:List Expr} {t:TA} (F:FnR X.prog X.w X.K X.mg X.base k f fd ps sp) (hr:Room k X.A) (hgd:X.A.guards=some []) (hg:Gl X x) (hm:X.mg x=some (.ref f)) (hk:PySem.W.keepIn X.K (.ref f)=true) (hb:Binds X.K fd ps [])
    (ha:PA X (e::es) t) (hdb:(x == ("__debug__":Str))=false:=by decide) (he:starEach (e::es) X.env=(false,eval e X.env)::starEach es X.env:=by rfl) (hpl:(backTo pos (starEach es X.env)).any (·.1)=false:=by rfl) :
    PE X (.Call (.Name x p) (e::es) [] pos) (fun σ H Q=>t σ H fun vs H1=>sp vs H1 Q E0):=by
  refine ⟨fun pins s σ H Q I h=>wpAny_Call_Name_kw (ld_glob I hg hm ?_ hdb)⟩
  refine PySem.W.callWith_K (h₀:=X.base) I.ok.mod.kin hk (thn (ha.run pos pins s σ H _ I h) fun us s1 ⟨vs,H1,I1,r,q⟩=>⟨I1.kIn,?_⟩) he hpl
  have hl:(us++[]).length=ps.length:=by rw [List.append_nil,<- r.length];exact F.len _ _ _ _ q
  have hb2:=hb s1 us I1.kIn hl
  rw [List.append_nil] at hb2
  refine wpAny_call (codeAny_mono (F.run X.A X.stack s1 H1 ⟨us,[]⟩ us vs Q E0 hr hgd I1.env0 hb2 r q) fun r s' hq=>?_)
  cases r with
  | error e=>
    obtain ⟨_,_,_,_,_,_,_,_,_,_,_,_,z⟩:=hq
    exact False.elim z
  | ok fl=>
    cases fl with
    | ret u=>exact I1.after hq
    | next=>exact False.elim hq
    | brk=>exact False.elim hq
    | cont=>exact False.elim hq
section
variable {P:Program} {w:World} {K:PySem.W.Frag} {mg mb:Str->Option Value}
def ao6 (K:PySem.W.Frag) (tb:List Addr) (a:Addr) (o:Obj) (xs:List V):Hp:=fun b=>if b∈tb then some (.tbl #[]) else if b=a/\K.lookup a=none then some (.frz o (.lst xs)) else none
theorem heap0_cases {tb:List Addr} {a b:Addr} {o:Obj} {xs:List V} {u:HO} (h:ao6 K tb a o xs b=some u):(b∈tb/\u=.tbl #[])\/(b∉tb/\b=a/\K.lookup a=none/\u=.frz o (.lst xs)):=by
  unfold ao6 at h
  by_cases q:b∈tb
  · rw [if_pos q] at h;cases h;exact .inl ⟨q,rfl⟩
  · rw [if_neg q] at h
    by_cases z:b=a/\K.lookup a=none
    · rw [if_pos z] at h;cases h;exact .inr ⟨q,z.1,z.2,rfl⟩
    · rw [if_neg z] at h;cases h
theorem alV {k:Nat} {fa a:Addr} {cs:List (Addr × Addr)} {fd:FuncData} {x:Str} {sp:Sp} {s1:Shared} {vs:List Value} {ns:List Int}
    (KX:K.In s1.heap) (hns:s1.heap.Ns mainGlobals mg) (hb:s1.heap.Ns builtinsNs mb) (hbb:∀ x:Str,x≠"__name__"->mb x=bootBuiltins x) (hlim:s1.heap.NoLimit) (hg:s1.gens=#[])
    (tE:∀ q∈cs,s1.heap.get? q.2=some { cls:=.none,data:=.fields #[] }) (tN:∀ q∈cs,K.lookup q.2=none) (tC:∀ q∈cs,PySem.W.CodeHd s1.heap q.1 q.2)
    (bmn:∃ (bm:Addr) (ob:Obj),mg "__builtins__"=some (.ref bm)/\bm≠builtinsNs/\s1.heap.get? bm=some ob/\ob.cls=.type "module"/\ob.dict=some builtinsNs/\ob.data=.plain)
    (ha:s1.heap.get? a=some { cls:=.type "list",data:=.seq vs.toArray }) (hi:IntsAre vs ns) (hl:ns.length<=sizeLine) (hr:Room k callerA)
    (F:∀ base:Heap,K.In base->base.Ns mainGlobals mg->(∀ q∈cs,LamX.TabB base mg q.1 q.2)->FnR P w K mg base k fa fd [x] sp) (hbind:∀ (s:Shared) (u:Value),BindsTo s fd ⟨[u],[]⟩ [(x,u)])
    (hsp:∀ H:Hp,(∀ q∈cs,H q.2=some (.tbl #[]))->SqL K H a (ns.map V.int)->sp [.ref a] H (fun v _=>v=.bl true) fun _ _ _=>False) :
    codeAny (model P w) callerA (.call (.ref fa) ⟨[.ref a],[]⟩) (fun r s'=>r=.ok (.ret (.bool true))/\OldK s1.heap s'.heap/\s'.os=s1.os/\AllBare s'.gens) s1:=by
  have rv:=vals_ints hi
  let O:Obj:={ cls:=.type "list",data:=.seq vs.toArray }
  let H:=ao6 K (cs.map Prod.snd) a O (ns.map V.int)
  have tb:∀ b∈cs.map Prod.snd,s1.heap.get? b=some { cls:=.none,data:=.fields #[] }:=fun b hm=>by
    obtain ⟨q,hq,rfl⟩:=List.mem_map.mp hm
    exact tE q hq
  have na:a∉cs.map Prod.snd:=fun z=>by
    have y:=ha.symm.trans (tb a z)
    cases y
  have inT:∀ b∈cs.map Prod.snd,H b=some (.tbl #[]):=fun b hm=>if_pos hm
  have hok:HOk P w H s1.heap:=fun b u e=>by
    rcases heap0_cases e with ⟨hm,rfl⟩ | ⟨_,rfl,_,rfl⟩
    · exact tb b hm
    · exact ⟨ha,by rw [List.length_map];exact hl,vs,_,rv,ha⟩
  have hS:SqL K H a (ns.map V.int):=by
    cases hk:K.lookup a with
    | none=>exact .inl (.inr ⟨O,(if_neg na).trans (if_pos ⟨rfl,hk⟩)⟩)
    | some o=>
      have e:=KX a o hk
      rw [ha] at e;cases e
      refine .inr ⟨_,vs.toArray,_,hk,rfl,rfl,rfl,?_,by simpa using rv⟩
      rw [List.size_toArray,hi.length];exact hl
  have free:∀ {b:Addr} {o:Obj},s1.heap.get? b=some o->(∀ xs n,o.data≠.seq xs n)->o.data≠.fields #[]->H b=none:=fun {b o} e n1 n2=>by
    cases q:H b with
    | none=>rfl
    | some u=>
      rcases heap0_cases q with ⟨hm,_⟩ | ⟨_,rfl,_,_⟩
      · have y:=(tb b hm).symm.trans e
        cases y;exact absurd rfl n2
      · have y:=ha.symm.trans e
        cases y;exact absurd rfl (n1 _ _)
  have lay:∀ {b:Addr} {o:Obj},s1.heap.get? b=some o->H b=none->(hidT s1.heap H).get? b=some o:=fun e n=>hidT_get e n
  have plain:∀ {b:Addr} {m:Str->Option Value},s1.heap.Ns b m->(hidT s1.heap H).Ns b m:=fun {b m} ⟨o,es,ep,e,d,r⟩=>
    ⟨o,es,ep,lay e (free e (fun xs n z=>by rw [d] at z;cases z) fun z=>by rw [d] at z;cases z),d,r⟩
  have hKb:K.In (hidT s1.heap H):=fun b o e=>lay (KX b o e) (by
    cases q:H b with
    | none=>rfl
    | some u=>
      rcases heap0_cases q with ⟨hm,_⟩ | ⟨_,rfl,z,_⟩
      · obtain ⟨y,hy,rfl⟩:=List.mem_map.mp hm
        rw [tN y hy] at e;cases e
      · rw [z] at e;cases e)
  have TB:∀ q∈cs,LamX.TabB (hidT s1.heap H) mg q.1 q.2:=fun q hq=>by
    refine ⟨?_,?_,fun z=>?_⟩
    · obtain ⟨o,us,f1,f2,f3,f4,f5,f6,f7,e1,r1,r2,r3,rest⟩:=tC q hq
      refine ⟨o,us,f1,f2,f3,f4,f5,f6,f7,lay e1 (free e1 (fun xs n z=>?_) fun z=>?_),r1,r2,r3,rest⟩
      · rw [r2] at z;cases z
      · rw [r2] at z;cases z;simp at r3
    · obtain ⟨bm,ob,b1,b2,b3,b4,b5,b6⟩:=bmn
      refine ⟨bm,ob,b1,b2,fun z=>?_,fun z=>?_,lay b3 (free b3 (fun xs n z=>?_) fun z=>?_),b4,b5,b6⟩
      · obtain ⟨o,es,ep,e,hd,_⟩:=hns
        subst z
        have y:=e.symm.trans b3
        cases y
        rw [hd] at b6;cases b6
      · subst z
        have y:=(tE q hq).symm.trans b3
        cases y
        cases b6
      · rw [b6] at z;cases z
      · rw [b6] at z;cases z
    · obtain ⟨o,es,ep,e,hd,_⟩:=hns
      rw [z] at e
      have y:=(tE q hq).symm.trans e
      cases y
      cases hd
  have e0:Env0 P w K mg (hidT s1.heap H) callerA [] s1 H:=by
    refine ⟨rfl,⟨hKb,plain hns,⟨mb,plain hb,hbb⟩,?_⟩,fun b o e=>of_hidT e,Nat.le_of_eq (hidT_size _ _),trivial,fun b z=>absurd (show b∈([]:List Addr) from z) (by simp),hok,.of_eq hg⟩
    obtain ⟨mc,h1,h2⟩:=hlim
    exact ⟨mc,plain h1,h2⟩
  refine codeAny_mono ((F _ hKb (plain hns) TB).run callerA [] s1 H ⟨[.ref a],[]⟩ [.ref a] [.ref a] _ _ hr rfl e0 (hbind s1 (.ref a)) (.cons rfl .nil) (hsp H (fun q hq=>inT _ (List.mem_map.mpr ⟨q,hq,rfl⟩)) hS)) fun r s' h=>?_
  cases r with
  | error e=>
    obtain ⟨_,_,_,_,_,_,_,_,_,_,_,_,z⟩:=h
    exact z.elim
  | ok fl=>
    cases fl with
    | next=>exact False.elim h
    | brk=>exact False.elim h
    | cont=>exact False.elim h
    | ret u=>
      obtain ⟨v,H',os,bare,un,hok',r',q⟩:=h
      obtain rfl:v=.bl true:=q
      obtain rfl:u=Value.bool true:=r'
      have stay:∀ b o,b∉cs.map Prod.snd->s1.heap.get? b=some o->s'.heap.get? b=some o:=fun b o nb e=>by
        cases q:H b with
        | none=>exact un.keep b o e q (fun y=>absurd (show b∈([]:List Addr) from y) (by simp)) (by simp)
        | some u=>
          rcases heap0_cases q with ⟨hm,_⟩ | ⟨_,_,_,rfl⟩
          · exact absurd hm nb
          · obtain ⟨e1,_⟩:=hok b _ q
            obtain ⟨e2,_⟩:=hok' b _ (un.frzs b O _ q)
            rw [e] at e1;cases e1
            exact e2
      have grown:∀ q∈cs,∃ more:Array Value,s'.heap.get? q.2=some { cls:=.none,data:=.fields more }:=fun q hq=>by
        obtain ⟨more,z⟩:=un.tbls q.2 #[] (inT _ (List.mem_map.mpr ⟨q,hq,rfl⟩))
        exact ⟨_,hok' q.2 _ z⟩
      refine ⟨rfl,⟨fun b o e=>?_,fun b o e=>?_⟩,os,bare⟩
      · by_cases hm:b∈cs.map Prod.snd
        · obtain ⟨q,hq,rfl⟩:=List.mem_map.mp hm
          obtain ⟨more,hmo⟩:=grown q hq
          have y:=(tE q hq).symm.trans e
          cases y
          exact .inr (.inl ⟨((tC q hq).tab (tE q hq)).isCodeTable,rfl,#[],more,rfl,by rw [Array.empty_append];exact hmo⟩)
        · exact .inl (stay b o hm e)
      · by_cases hm:b∈cs.map Prod.snd
        · obtain ⟨q,hq,rfl⟩:=List.mem_map.mp hm
          obtain ⟨more,hmo⟩:=grown q hq
          exact ⟨_,hmo⟩
        · exact ⟨o,stay b o hm e⟩
end
def spSource (K:PySem.W.Frag):Sp:=fun vs H Q _=>∃ (a:Addr) (ns:List Int),vs=[.ref a]/\SqL K H a (ns.map V.int)/\ns.length<=63/\
  ∀ (H':Hp) (p c:Addr) (ms:List Int) (sd:Int),Ex H H'->c≠p->H' p=some (.lst [.ref c,.int 0,.int 0,.int sd,.int 0])->H' c=some (.lst (ms.map V.int))->ms.length<=63->0<=sd->sd < 4294967296->Q (.ref p) H'
def spDraw:SpD:=fun args Q _=>∃ m:Int,args=[.src,.d (.int m)]/\0 < m/\m < 2 ^ 64/\∀ n:Int,0<=n->n < m->Q (.d (.int n))
def spOf:SpD:=fun args Q _=>∃ x:DV,args=[.src,x]/\(∀ o,x≠.see o)/\match x with
  | .d (.str z)=>0 < z.length/\z.length<=szl/\∀ c∈z.cps.toList,Q (.d (.str ⟨#[c]⟩))
  | .d (.tup ds)=>0 < ds.length/\ds.length<=szl/\∀ d∈ds,Q (.d d)
  | x=>match x.items with
    | some ds=>0 < ds.length/\ds.length<=szl/\∀ d∈ds,Q (.d d)
    | none=>False
structure Shows (d:D) (p:PyData):Prop where
  py:d.py=some p
  seq:(∃ ds,d=.lst ds)\/∃ ds,d=.tup ds
  sh:SeqAt.shaped p=true
  sw:p.showable=true
  ln:p.shown.length<=szl
def spSame:SpD:=fun args Q _=>∃ (d e:D) (p q:PyData),args=[.d d,.d e]/\Shows d p/\Shows e q/\Q (.d (.bl (decide (p.shown=q.shown))))
theorem aiT {Q:DV->Prop} {E:XE'} {d:D} {p:PyData} (h:Shows d p) (q:Q (.d (.bl true))):spSame [.d d,.d d] Q E:=⟨d,d,p,p,rfl,h,h,by rw [decide_eq_true rfl];exact q⟩
theorem anM {k:Nat} {A:Around} (hr:Room k A):A.units + 65 < cLine:=by have:=hr.un;omega
theorem aly {d:D} {p:PyData} {Q:DV->Prop} (s:Shows d p) (q:Q (.d (.str p.shown))):reprR [.d d] Q:=by
  unfold reprR
  rcases s.seq with ⟨ds,rfl⟩ | ⟨ds,rfl⟩
  · show (match (D.lst ds).py with | some p=>SeqAt.shaped p=true/\p.showable=true/\p.shown.length<=szl/\Q (.d (.str p.shown)) | none=>False)
    rw [s.py]
    exact ⟨s.sh,s.sw,s.ln,q⟩
  · show (match (D.tup ds).py with | some p=>SeqAt.shaped p=true/\p.showable=true/\p.shown.length<=szl/\Q (.d (.str p.shown)) | none=>False)
    rw [s.py]
    exact ⟨s.sh,s.sw,s.ln,q⟩
def LamUq (K:PySem.W.Frag):Prop:=∀ q∈lamFns K,∀ q'∈lamFns K,q.2.1=q'.2.1->q.2.2=q'.2.2
def spLaw (K:PySem.W.Frag):Sp:=fun vs H Q _=>∃ (a:Addr) (ns:List Int),vs=[.ref a]/\SqL K H a (ns.map V.int)/\ns.length<=63/\(∀ q∈lamFns K,H q.2.1=some (.tbl #[]))/\LamUq K/\∀ H',Q (.bl true) H'
abbrev lawEnds:EndsD:={ nx:=fun _=>False,rt:=fun v _=>v=.d (.bl true),bk:=fun _=>False,ct:=fun _=>False,xc:=fun _ _ _=>False }
theorem apZ {K:PySem.W.Frag} {W:WX} {t:TDS} {D:Ends} {σ:L2.St} {H:Hp} {p c:Addr} {ms:List Int} {sd:Int} (n i:Nat) (hl:σ.length=n) (hi:σ[i]?=some (some (.ref p))) (hD:∀ H',D.rt (.bl true) H')
    (cp:c≠p) (hp:H p=some (.lst [.ref c,.int 0,.int 0,.int sd,.int 0])) (hc:H c=some (.lst (ms.map V.int))) (hm:ms.length<=63) (h0:0<=sd) (h1:sd < 4294967296) (ht:∀ q∈lamFns K,H q.2.1=some (.tbl #[])) (hu:LamUq K)
    (h:t lawEnds ((List.replicate n none).set i (some .src))):upS K W t D σ H:=by
  have gP:tpUp (fun b=>if b=c then H c else none) H p=none:=by
    unfold tpUp;rw [hp];exact if_neg (Ne.symm cp)
  have gC:tpUp (fun b=>if b=c then H c else none) H c=some (.lst (ms.map V.int)):=by
    unfold tpUp;rw [hc];simp
  refine ⟨tpUp (fun b=>if b=c then H c else none) H,(p,.src c)::(lamFns K).map fun q=>(q.2.1,.tab q.2.2),_,lawEnds,?_,h,⟨fun _ _ _ _ _ z=>z.elim,fun _ _ _ _ _ z=>z.elim,fun _ _ _ _ _ z=>z.elim,fun v H' G' dv _ pr z=>?_,fun _ _ _ _ _ _ _ _ _ z=>z.elim⟩⟩
  · have sl:∀ (j:Nat) (dv:DV),((List.replicate n none).set i (some DV.src))[j]?=some (some dv)->j=i/\dv=.src:=fun j dv e=>by
      rcases get_set e with ⟨z,e2⟩ | ⟨ne,e2⟩
      · exact ⟨z,Option.some.inj e2⟩
      · rw [List.getElem?_replicate] at e2
        split at e2<;>cases e2
    refine ⟨⟨fun b o e=>?_,fun b k e=>?_,⟨fun q hq=>List.mem_cons_of_mem _ (List.mem_map.mpr ⟨q,hq,rfl⟩),fun b k k' e e'=>?_⟩,fun b xs q=>by unfold tpUp;rw [q]⟩,by simp [hl],fun j dv e=>?_,fun j k o o' b e1 _ _ _=>?_,fun j o b e1 _ _=>?_,fun j o e=>?_⟩
    · unfold tpUp at e
      split at e
      · rename_i xs z;cases e;exact z
      · replace e:(if b=c then H c else none)=some o:=e
        by_cases q:b=c
        · subst q;rw [if_pos rfl] at e;exact e
        · rw [if_neg q] at e;cases e
    · rcases List.mem_cons.mp e with e | e
      · cases e
        exact ⟨gP,ms,0,0,sd,0,hp,SqL.of gC,hm,by omega,by omega,h0,h1⟩
      · obtain ⟨q,hq,e⟩:=List.mem_map.mp e
        cases e
        have hne:q.2.1≠c:=fun z=>by
          have y:=ht q hq
          rw [z,hc] at y;cases y
        exact ⟨by unfold tpUp;rw [ht q hq];exact if_neg hne,#[],ht q hq,True.intro,fun pos cv hcv=>(by have z:codeAmong pos []=some cv:=hcv;simp [codeAmong] at z)⟩
    · have np:∀ q∈lamFns K,q.2.1≠p:=fun q hq z=>by
        have y:=ht q hq
        rw [z,hp] at y;cases y
      rcases List.mem_cons.mp e with e | e<;>rcases List.mem_cons.mp e' with e' | e'
      · cases e;cases e';rfl
      · obtain ⟨q,hq,e'⟩:=List.mem_map.mp e'
        cases e;cases e'
        exact absurd rfl (np q hq)
      · obtain ⟨q,hq,e⟩:=List.mem_map.mp e
        cases e;cases e'
        exact absurd rfl (np q hq)
      · obtain ⟨q,hq,e⟩:=List.mem_map.mp e
        obtain ⟨q',hq',e'⟩:=List.mem_map.mp e'
        cases e
        injection e' with e1 e2
        rw [<- e2,hu q hq q' hq' e1.symm]
    · obtain ⟨rfl,rfl⟩:=sl j dv e
      exact ⟨_,hi,p,⟨c,List.mem_cons_self ..⟩,rfl⟩
    · exact (nomatch (sl j _ e1).2)
    · exact (nomatch (sl j _ e1).2)
    · exact (nomatch (sl j _ e).2)
  · have w:=pr.val
    rw [z] at w
    cases w
    exact hD H'
theorem adW {g:TDG} {tb:TDS} {E:EndsD} (I:DSt->Prop):∀ (ds:List D) (sl:DSt),I sl->(∀ (N:DSt->Prop) (d:D) (s:DSt),(∀ s',I s'->N s')->d∈ds->I s->g d s fun s1=>tb { nx:=N,ct:=N,bk:=E.nx,rt:=E.rt,xc:=E.xc } s1)->(∀ s,I s->E.nx s)->dForL g tb E ds sl
  | [],sl,h,_,fin=>by rw [afj];exact fin sl h
  | d::r,sl,h,step,fin=>by
    rw [ael]
    exact step _ d sl (fun s' i=>adW I r s' i (fun N e s k m=>step N e s k (List.mem_cons_of_mem _ m)) fin) (List.mem_cons_self ..) h
theorem adX {g:TDG} {tb:TDS} {E:EndsD} (I:List D->DSt->Prop) (step:∀ (N:DSt->Prop) (d:D) (r:List D) (s:DSt),(∀ s',I r s'->N s')->I (d::r) s->g d s fun s1=>tb { nx:=N,ct:=N,bk:=E.nx,rt:=E.rt,xc:=E.xc } s1) (fin:∀ s,I [] s->E.nx s):∀ (ds:List D) (sl:DSt),I ds sl->dForL g tb E ds sl
  | [],sl,h=>by rw [afj];exact fin sl h
  | d::r,sl,h=>by
    rw [ael]
    exact step _ d r sl (fun s' i=>adX I step fin r s' i) h
def GlobD (K:PySem.W.Frag) (mg:Str->Option Value) (x:Str) (d:D):Prop:=∃ v u,mg x=some u/\RelV v u/\∀ G,DOk K G v d
theorem aeD {X:Cx} {W:WX} {x:Str} {d:D} {pos:Pos} (hg:Gl X x) (h:GlobD X.K X.mg x d) (hdb:(x == ("__debug__":Str))=false:=by decide):DE X W (.Name x pos) (dC d):=by
  obtain ⟨v,u,h1,h2,h3⟩:=h
  exact de_c (pe_glob hg h1 h2 hdb) h3
theorem abX {K:PySem.W.Frag} {x qual:Str} {params:Arguments} {body:List Stmt} {scope:Scope} {kws:List (Str × V)} {f:Addr} {fd:FuncData} {ps ks:List Str} {n:Nat} {sel:List Sel} (F:FunD K x qual params body scope [] kws f fd) (g:List Value->List Value->List Value)
    (h:∀ (kV doc pm:Value) (an:Option Addr) (cdv ct:Value) (us ws:List Value),us.length=n->ws.length=ks.length->bindArgs (PySem.W.fnOf x qual params body scope .none kV doc pm an cdv ct) ⟨us,ks.zip ws⟩=pure (ps.zip (g us ws)))
    (hv:∀ (vs qs:List V) (us ws:List Value),us.length=n->ws.length=ks.length->Vals vs us->Vals qs ws->Vals (sel.map (pickV vs qs)) (g us ws)) (hs:∀ s∈sel,∀ (v:V) (d:D),s=.dfl v d->∀ G,DOk K G v d):Bd K fd ps n ks sel:=by
  obtain ⟨oc,od,dV,kV,doc,pm,an,cdv,ct,osl,rfl,lk,hcd,hD,hK⟩:=F.ex
  rcases hD with ⟨_,rfl⟩ | ⟨e,_⟩
  · exact ⟨fun s us ws vs qs _ l1 l2 r1 r2=>⟨g us ws,.of_eq (h kV doc pm an cdv ct us ws l1 l2),hv vs qs us ws l1 l2 r1 r2⟩,hs⟩
  · exact absurd rfl e
theorem akK {K:PySem.W.Frag} {x qual:Str} {params:Arguments} {body:List Stmt} {scope:Scope} {dvs:List V} {kws:List (Str × V)} {f:Addr} {fd:FuncData} {ps ks:List Str} {n:Nat} {sel:List Sel} (F:FunD K x qual params body scope dvs kws f fd) (hd:dvs≠[]) (g:List Value->List Value->List Value->List Value)
    (h:∀ (T:Addr) (kV doc pm:Value) (an:Option Addr) (cdv ct:Value) (us ws its:List Value),us.length=n->ws.length=ks.length->its.length=dvs.length->∃ k,bindArgs (PySem.W.fnOf x qual params body scope (.ref T) kV doc pm an cdv ct) ⟨us,ks.zip ws⟩=seqItems? (.ref T) >>= k/\k (some its.toArray)=pure (ps.zip (g us ws its)))
    (hv:∀ (vs qs:List V) (us ws its:List Value),us.length=n->ws.length=ks.length->Vals vs us->Vals qs ws->Vals dvs its->Vals (sel.map (pickV vs qs)) (g us ws its)) (hs:∀ s∈sel,∀ (v:V) (d:D),s=.dfl v d->∀ G,DOk K G v d):Bd K fd ps n ks sel:=by
  obtain ⟨oc,od,dV,kV,doc,pm,an,cdv,ct,osl,rfl,lk,hcd,hD,hK⟩:=F.ex
  rcases hD with ⟨e,_⟩ | ⟨_,T,o,its,m,rfl,lT,oT,rT⟩
  · exact absurd e hd
  · refine ⟨fun s us ws vs qs X l1 l2 r1 r2=>⟨g us ws its,BindsTo.of_looks fun M=>?_,hv vs qs us ws its l1 l2 r1 r2 rT⟩,hs⟩
    obtain ⟨k,e1,e2⟩:=h T kV doc pm an cdv ct us ws its l1 l2 rT.length.symm
    rw [e1]
    exact looks_items X lT oT (.of_pure e2)
theorem aqc {x:DV} {d:D} {t T:String} {b:Bool} {Q:DV->Prop} (hx:x.dat=some d) (ht:tyD d=some t) (hk:kitB t T=some b) (q:Q (.d (.bl b))):isiR [x,.d (.raw (.ty T))] Q:=by
  unfold isiR
  show (match x.dat with | some d=>(match tyD d with | some t=>(match kitB t T with | some b=>Q (.d (.bl b)) | none=>False) | none=>False) | none=>False)
  rw [hx]
  show (match tyD d with | some t=>(match kitB t T with | some b=>Q (.d (.bl b)) | none=>False) | none=>False)
  rw [ht]
  show (match kitB t T with | some b=>Q (.d (.bl b)) | none=>False)
  rw [hk]
  exact q
section
variable {Q:DV->Prop} {i j:Int} {a b z:Str} {ds es:List D} {d e:D} {v w:DV}
theorem afg (q:Q (.d (.int (i + j)))):addR (.d (.int i)) (.d (.int j)) Q:=by unfold addR;exact q
theorem adx (h:a.length + b.length<=szl) (q:Q (.d (.str (a++b)))):addR (.d (.str a)) (.d (.str b)) Q:=by unfold addR;exact ⟨h,q⟩
theorem acS {f:Int->Int->D} (q:Q (.d (f i j))):ame f (.d (.int i)) (.d (.int j)) Q:=by unfold ame;exact q
theorem ahI {C:Int->Int->Prop} {f:Int->Int->D} (h:C i j) (q:Q (.d (f i j))):intR C f (.d (.int i)) (.d (.int j)) Q:=by unfold intR;exact ⟨h,q⟩
theorem aff {n:Bool} (q:Q (.d (.bl (if n then !decide (i=j) else decide (i=j))))):eqR n (.d (.int i)) (.d (.int j)) Q:=by unfold eqR;exact q
theorem l_eqS {n:Bool} (q:Q (.d (.bl (if n then !decide (a=b) else decide (a=b))))):eqR n (.d (.str a)) (.d (.str b)) Q:=by unfold eqR;exact q
theorem l_eqD {n:Bool} {p p':PyData} (hv:v.dat=some d) (hw:w.dat=some e) (h1:d.py=some p) (h2:e.py=some p') (s1:SeqAt.shaped p=true) (s2:SeqAt.shaped p'=true) (hn:(∃ x,p=.list x)\/(∃ x,p=.tuple x)\/p=.none) (q:Q (.d (.bl (if n then !PyData.eqv p p' else PyData.eqv p p')))):eqR n v w Q:=by
  unfold eqR
  split
  · cases hv;cases h1;rcases hn with ⟨x,z⟩ | ⟨x,z⟩ | z<;>cases z
  · cases hv;cases h1;rcases hn with ⟨x,z⟩ | ⟨x,z⟩ | z<;>cases z
  · cases hv;cases h1;rcases hn with ⟨x,z⟩ | ⟨x,z⟩ | z<;>cases z
  · unfold eqDeep
    rw [hv,hw]
    dsimp only
    rw [h1,h2]
    exact ⟨s1,s2,q⟩
theorem abo {P:Bool->Prop} {x:Bool} (q:P x):truR (.d (.bl x)) P:=by unfold truR;exact q
theorem aeG {xs:List DV} (h:dats xs=some ds) (hl:Nat.ble ds.length szl=true) (q:Q (.d (.tup ds))):tupR xs Q:=by
  unfold tupR;rw [h];exact ⟨Nat.le_of_ble_eq_true hl,q⟩
theorem acG {xs:List DV} (h:dats xs=some ds) (hl:Nat.ble ds.length szl=true) (q:Q (.own (.lst ds))):lstR xs Q:=by
  unfold lstR;rw [h];exact ⟨Nat.le_of_ble_eq_true hl,q⟩
theorem aoS {P:List D->Prop} (q:P (signs z)):iterR (.d (.str z)) P:=by unfold iterR;exact q
theorem abx {P:List D->Prop} (q:P ds):iterR (.d (.lst ds)) P:=by unfold iterR;exact q
theorem ads {P:List D->Prop} (h1:-(2 ^ 62)<=j) (h2:j < 2 ^ 62) (q:P (intsFrom 0 j.toNat)):am4 [.d (.int j)] P:=by unfold am4;exact ⟨h1,h2,q⟩
theorem al0 (h:z.length<=szl) (q:Q (.d (.int z.length))):lenR [.d (.str z)] Q:=by unfold lenR;exact ⟨h,q⟩
theorem anV (q:Q (.d (.int ds.length))):lenR [.d (.tup ds)] Q:=by unfold lenR;exact q
theorem acR (hv:v.items=some ds) (q:Q (.d (.int ds.length))):lenR [v] Q:=by
  unfold lenR
  split
  · rename_i h;cases h;cases hv
  · rename_i h;cases h;cases hv
  · rename_i h;cases h;rw [hv];exact q
  · rename_i h;exact absurd rfl (h v)
theorem l_int (q:Q (.d (.int i))):intC [.d (.int i)] Q:=by unfold intC;exact q
theorem l_abs (q:Q (.d (.int (if i < 0 then -i else i)))):absR [.d (.int i)] Q:=by unfold absR;exact q
theorem anj (h:i.natAbs.log2 < 1920) (q:Q (.d (.str (toString i)))):strR [.d (.int i)] Q:=by unfold strR;exact ⟨h,q⟩
theorem alZ (hv:v.items=some ds) (q:Q (.own (.lst ds))):listR [v] Q:=by
  unfold listR
  split
  · rename_i h;cases h;cases hv
  · rename_i h;cases h;rw [hv];exact q
  · rename_i h;exact absurd rfl (h v)
theorem ap8 {bs:List Bool} (hv:v.items=some ds) (hb:bools ds=some bs) (q:Q (.d (.bl (bs.all id)))):allR [v] Q:=by
  unfold allR
  dsimp only
  rw [hv]
  dsimp only
  rw [hb]
  exact q
theorem ap5 (q:Q (.d (.int (Int.gcd i j)))):gcdR [.d (.int i),.d (.int j)] Q:=by unfold gcdR;exact q
theorem l_inC {n:Bool} {c:Nat} (h:a.cps.toList=[c]) (q:Q (.d (.bl (if n then !decide (c∈z.cps.toList) else decide (c∈z.cps.toList))))):inR n (.d (.str a)) (.d (.str z)) Q:=by
  unfold inR
  dsimp only
  rw [h]
  exact q
theorem l_inT {n:Bool} (h1:flatD d=true) (h2:ds.all flatD=true) (q:Q (.d (.bl (if n then !inF d ds else inF d ds)))):inR n (.d d) (.d (.tup ds)) Q:=by
  unfold inR
  split
  · rename_i h;cases h
  · unfold inSeqR;exact ⟨h1,h2,q⟩
theorem items_cases (h:v.items=some ds):v=.d (.lst ds)\/v=.own (.lst ds)\/v=.bor (.lst ds)\/v=.see (.lst ds):=by
  unfold DV.items at h
  split at h<;>first | (cases h;done) | (injection h with h;subst h;simp)
theorem ap4 {n:Bool} (hv:v.items=some ds) (h1:flatD d=true) (h2:ds.all flatD=true) (q:Q (.d (.bl (if n then !inF d ds else inF d ds)))):inR n (.d d) v Q:=by
  rcases items_cases hv with e | e | e | e<;>subst e<;>(unfold inR;unfold inSeqR;cases d<;>exact ⟨h1,h2,q⟩)
theorem abb (h:atI ds i=some d) (q:Q (.d d)):ixR (.d (.tup ds)) (.d (.int i)) Q:=by
  unfold ixR
  dsimp only
  rw [h];exact q
theorem l_ixS {c:Nat} (hz:z.length<=szl) (h:atI z.cps.toList i=some c) (q:Q (.d (.str ⟨#[c]⟩))):ixR (.d (.str z)) (.d (.int i)) Q:=by
  unfold ixR
  refine ⟨hz,?_⟩
  rw [h];exact q
theorem aej (hv:v.items=some ds) (h:atI ds i=some d) (q:Q (.d d)):ixR v (.d (.int i)) Q:=by
  rcases items_cases hv with e | e | e | e<;>subst e<;>(unfold ixR;dsimp only [DV.items];rw [h];exact q)
theorem l_slT {lo hi:Option Int} (q:Q (.d (.tup (cut ds lo hi)))):slR (.d (.tup ds)) lo hi Q:=by unfold slR;exact q
theorem ap0 {lo hi:Option Int} (hz:z.length<=szl) (q:Q (.d (.str (cutS z lo hi)))):slR (.d (.str z)) lo hi Q:=by unfold slR;exact ⟨hz,q⟩
theorem alY {lo hi:Option Int} (hv:v.items=some ds) (q:Q (.own (.lst (cut ds lo hi)))):slR v lo hi Q:=by
  unfold slR
  split
  · cases hv
  · cases hv
  · rw [hv];exact q
theorem anW {ss:List Str} (hv:seqD v=some ds) (hs:strsD ds=some ss) (h:(ss.map (·.length)).sum + ss.length * a.length<=16777216) (q:Q (.d (.str (Txt.join a ss)))):joinR (.d (.str a)) v Q:=by
  unfold joinR
  dsimp only
  rw [hv]
  dsimp only
  rw [hs]
  exact ⟨h,q⟩
end
section
variable {g:TDG} {tt:TDT} {te:TD} {vs:List Nat} {Q:DV->DSt->Prop}
theorem alU (p:D->Bool) (f:D->D) (S:DSt):∀ (ds acc:List D),acc.length + ds.length<=szl->
    (∀ d∈ds,∀ (M:D->DSt->Prop) (A:DSt->Prop),(p d=true->M (f d) S)->(p d=false->A S)->g d S fun s1=>tt s1 (fun b s2=>Br b (te s2 (fun x s3=>match pubV x with
      | .d y=>M y (wipeD s3 vs)
      | _=>False) fun _ _ _=>False) (A (wipeD s2 vs))) fun _ _ _=>False)->
    Q (.own (.lst (acc++(ds.filter p).map f))) S->dLcL g tt te vs Q ds acc S
  | [],acc,_,_,q=>by rw [lcL_nil];rw [List.filter_nil,List.map_nil,List.append_nil] at q;exact q
  | d::r,acc,hl,step,q=>by
    rw [afe]
    have hl2:acc.length + (r.length + 1)<=szl:=hl
    refine step d (List.mem_cons_self ..) (fun y s=>acc.length < szl/\dLcL g tt te vs Q r (acc++[y]) s) (fun s=>dLcL g tt te vs Q r acc s) (fun e=>⟨by omega,?_⟩) (fun e=>?_)
    · refine alU p f S r _ (by rw [List.length_append,List.length_singleton];omega) (fun d' h=>step d' (List.mem_cons_of_mem _ h)) ?_
      rw [List.filter_cons_of_pos e,List.map_cons] at q
      rw [List.append_assoc,List.singleton_append];exact q
    · refine alU p f S r _ (by omega) (fun d' h=>step d' (List.mem_cons_of_mem _ h)) ?_
      rw [List.filter_cons_of_neg (by simp [e])] at q
      exact q
theorem adr (f:D->D) (S:DSt) {ds:List D} (hl:ds.length<=szl)
    (step:∀ d∈ds,∀ (M:D->DSt->Prop) (A:DSt->Prop),M (f d) S->g d S fun s1=>tt s1 (fun b s2=>Br b (te s2 (fun x s3=>match pubV x with
      | .d y=>M y (wipeD s3 vs)
      | _=>False) fun _ _ _=>False) (A (wipeD s2 vs))) fun _ _ _=>False) (q:Q (.own (.lst (ds.map f))) S):dLcL g tt te vs Q ds [] S:=
  alU (fun _=>true) f S ds [] (by simpa using hl) (fun d h M A m _=>step d h M A (m rfl)) (by rw [List.filter_eq_self.mpr (fun _ _=>rfl)];exact q)
theorem aoL (R:D->Prop) (S:DSt) {ds0:List D} (hl:ds0.length<=szl)
    (step:∀ d∈ds0,∀ (M:D->DSt->Prop) (A:DSt->Prop),(∀ y,R y->M y S)->g d S fun s1=>tt s1 (fun b s2=>Br b (te s2 (fun x s3=>match pubV x with
      | .d y=>M y (wipeD s3 vs)
      | _=>False) fun _ _ _=>False) (A (wipeD s2 vs))) fun _ _ _=>False) (q:∀ xs:List D,xs.length=ds0.length->(∀ x∈xs,R x)->Q (.own (.lst xs)) S):dLcL g tt te vs Q ds0 [] S:=by
  have go:∀ (ds acc:List D),acc.length + ds.length=ds0.length->(∀ d∈ds,d∈ds0)->(∀ x∈acc,R x)->dLcL g tt te vs Q ds acc S:=by
    intro ds
    induction ds with
    | nil=>intro acc h1 _ h3;rw [lcL_nil];exact q acc (by simpa using h1) h3
    | cons d r ih=>
      intro acc h1 h2 h3
      rw [List.length_cons] at h1
      rw [afe]
      refine step d (h2 d (List.mem_cons_self ..)) (fun y s=>acc.length < szl/\dLcL g tt te vs Q r (acc++[y]) s) (fun s=>dLcL g tt te vs Q r acc s) (fun y hy=>⟨by omega,?_⟩)
      refine ih (acc++[y]) (by rw [List.length_append,List.length_singleton];omega) (fun d' h=>h2 d' (List.mem_cons_of_mem _ h)) (fun x hx=>?_)
      rcases List.mem_append.mp hx with h | h
      · exact h3 x h
      · rw [List.mem_singleton.mp h];exact hy
  exact go ds0 [] (by simp) (fun _ h=>h) (fun _ h=>(nomatch h))
end
theorem agW {α:Type} (f:α->Bool) (xs:List α):bools (xs.map fun x=>D.bl (f x))=some (xs.map f):=by
  induction xs with
  | nil=>rfl
  | cons x r ih=>show (bools (r.map fun x=>D.bl (f x))).map (f x::·)=_;rw [ih];rfl
theorem aiJ (z:Str):(signs z).length=z.length:=by simp [signs,Str.length]
theorem aji {z:Str} {d:D} (h:d∈signs z):∃ c∈z.cps.toList,d=.str ⟨#[c]⟩:=by
  obtain ⟨c,h1,h2⟩:=List.mem_map.mp h
  exact ⟨c,h1,h2.symm⟩
theorem up_ss {X:Cx} (W:WX) {sts:List Stmt} {t:TDS} (h:DSs X W sts t):PSs X sts (upS X.K W t):=h
theorem ac3 {K:PySem.W.Frag} {x qual:Str} {params:Arguments} {body:List Stmt} {scope:Scope} {kws:List (Str × V)} {f:Addr} {fd:FuncData} {ps:List Str} (F:FunD K x qual params body scope [] kws f fd)
    (h:∀ (kV doc pm:Value) (an:Option Addr) (cdv ct:Value) (us:List Value),us.length=ps.length->bindArgs (PySem.W.fnOf x qual params body scope .none kV doc pm an cdv ct) ⟨us,[]⟩=pure (ps.zip us)):Binds K fd ps []:=by
  obtain ⟨oc,od,dV,kV,doc,pm,an,cdv,ct,osl,rfl,lk,hcd,hD,hK⟩:=F.ex
  rcases hD with ⟨_,rfl⟩ | ⟨e,_⟩
  · exact Binds.all fun us hl=>h kV doc pm an cdv ct us hl
  · exact absurd rfl e
theorem amJ {K:PySem.W.Frag} {x qual p:Str} {params:Arguments} {body:List Stmt} {scope:Scope} {kws:List (Str × V)} {f:Addr} {fd:FuncData} (F:FunD K x qual params body scope [] kws f fd)
    (h:∀ (kV doc pm:Value) (an:Option Addr) (cdv ct:Value) (u:Value),bindArgs (PySem.W.fnOf x qual params body scope .none kV doc pm an cdv ct) ⟨[u],[]⟩=pure [(p,u)]) (s:Shared) (u:Value):BindsTo s fd ⟨[u],[]⟩ [(p,u)]:=by
  obtain ⟨oc,od,dV,kV,doc,pm,an,cdv,ct,osl,rfl,lk,hcd,hD,hK⟩:=F.ex
  rcases hD with ⟨_,rfl⟩ | ⟨e,_⟩
  · exact .of_eq (h kV doc pm an cdv ct u)
  · exact absurd rfl e
abbrev sgS (c:Nat):Str:=⟨#[c]⟩
abbrev sgD (c:Nat):D:=.str (sgS c)
abbrev wd (cs:List Nat):Str:=⟨cs.toArray⟩
theorem ahy (cs:List Nat):(wd cs).length=cs.length:=by simp [Str.length]
theorem aof (cs:List Nat):strsD (cs.map sgD)=some (cs.map sgS):=by
  induction cs with
  | nil=>rfl
  | cons c r ih=>show (strsD (r.map sgD)).map (sgS c::·)=_;rw [ih];rfl
theorem akz:∀ cs:List Nat,TL.joinL [] (cs.map fun c=>[c])=cs
  | []=>rfl
  | [_]=>rfl
  | c::e::r=>by
    show [c]++([]++TL.joinL [] ((e::r).map fun c=>[c]))=_
    rw [akz (e::r)];rfl
theorem ao2 (cs:List Nat):Txt.join "" (cs.map sgS)=wd cs:=by
  refine TL.ext_tl ?_
  rw [TL.join_eq,TL.tl_join,List.map_map]
  exact akz cs
theorem apB (cs:List Nat):((cs.map sgS).map (·.length)).sum=cs.length:=by
  induction cs with
  | nil=>rfl
  | cons c r ih=>rw [List.map_cons,List.map_cons,List.sum_cons,ih,List.length_cons];show 1 + _=_;omega
theorem aoR {v:DV} {cs:List Nat} {Q:DV->Prop} (hv:seqD v=some (cs.map sgD)) (hl:cs.length<=szl) (q:Q (.d (.str (wd cs)))):joinR (.d (.str "")) v Q:=by
  refine anW hv (aof cs) ?_ (by rw [ao2];exact q)
  rw [apB,List.length_map]
  show cs.length + cs.length * 0<=_
  have:szl=16777216:=rfl
  omega
section
variable {t u:TDS} {te:TD} {E:EndsD} {sl:DSt} {i:Nat}
theorem aaT (P:DSt->Prop) (h:∀ N:DSt->Prop,(∀ s,P s->N s)->t { E with nx:=N } sl) (q:∀ s,P s->u E s):dSeq t u E sl:=h _ q
theorem ags (x:D) (h:∀ Q:DV->DSt->Prop,Q (.d x) sl->te sl Q E.xc) (q:u E (sl.set i (some (.d x)))):dSeq (dSet te i) u E sl:=h _ q
theorem aeB (ds:List D) (h:∀ Q:DV->DSt->Prop,Q (.own (.lst ds)) sl->te sl Q E.xc) (q:u E (sl.set i (some (.own (.lst ds))))):dSeq (dSet te i) u E sl:=h _ q
theorem adL (R:D->Prop) (h:∀ Q:DV->DSt->Prop,(∀ x,R x->Q (.d x) sl)->te sl Q E.xc) (q:∀ x,R x->u E (sl.set i (some (.d x)))):dSeq (dSet te i) u E sl:=h _ q
end
theorem agp (L:Nat):∀ (ts:List Str) (k:Nat) (acc:Str),(∀ t∈ts,t.length<=L)->(PySem.textFrom k acc ts).length<=acc.length + ts.length * (L + 2)
  | [],k,acc,_=>by show acc.length<=_;omega
  | t::r,k,acc,h=>by
    have h1:=agp L r (k + 1) (acc++(if k > 0 then ", " else "":String)++t) fun y hy=>h y (List.mem_cons_of_mem _ hy)
    have h2:=h t (List.mem_cons_self ..)
    have e:(acc++(if k > 0 then ", " else "":String)++t).length=acc.length + (if k > 0 then 2 else 0) + t.length:=by
      rw [strLen_append,strLen_append]
      split<;>rfl
    rw [e] at h1
    show (PySem.textFrom (k + 1) (acc++(if k > 0 then ", " else "":String)++t) r).length<=_
    rw [List.length_cons,Nat.add_mul]
    have h3:(if k > 0 then 2 else 0)<=2:=by split<;>omega
    omega
theorem amb (L:Nat):∀ ts:List Str,(∀ t∈ts,t.length<=L)->(Str.join ", " ts).length<=ts.length * (L + 2)
  | [],_=>by show 0<=_;omega
  | [x],h=>by have:=h x (List.mem_cons_self ..);show x.length<=1 * (L + 2);omega
  | x::y::r,h=>by
    have h1:=amb L (y::r) fun t ht=>h t (List.mem_cons_of_mem _ ht)
    have h2:=h x (List.mem_cons_self ..)
    show (x++", "++Str.join ", " (y::r)).length<=(r.length + 1 + 1) * (L + 2)
    rw [strLen_append,strLen_append]
    have e2:((", ":String):Str).length=2:=rfl
    rw [List.length_cons] at h1
    rw [Nat.add_mul (r.length + 1)]
    omega
structure Shw (n L:Nat) (d:D) (p:PyData):Prop where
  py:d.py=some p
  lay:p.canLay0=true
  dp:p.depth<=n
  sw:p.showable=true
  ln:p.shown.length<=L
inductive ShwAll (n L:Nat):List D->List PyData->Prop where
  | nil:ShwAll n L [] []
  | cons {d:D} {p:PyData} {ds:List D} {ps:List PyData} (h:Shw n L d p) (t:ShwAll n L ds ps):ShwAll n L (d::ds) (p::ps)
namespace Shw
variable {n m L M:Nat} {d:D} {p:PyData}
theorem mono (h:Shw n L d p) (h1:n<=m) (h2:L<=M):Shw m M d p:=⟨h.py,h.lay,Nat.le_trans h.dp h1,h.sw,Nat.le_trans h.ln h2⟩
theorem non:Shw 0 4 .non .none:=⟨rfl,by simp [PyData.canLay0],by simp [PyData.depth],by simp [PyData.showable],by simp [PyData.shown];decide⟩
theorem bl (b:Bool):Shw 0 5 (.bl b) (.bool b):=⟨rfl,by simp [PyData.canLay0],by simp [PyData.depth],by simp [PyData.showable],by cases b<;>simp [PyData.shown]<;>decide⟩
theorem str {z:Str} (h:∀ c∈z.cps.toList,c < 0x110000) (hl:z.length<=m):Shw 0 (10 * m + 2) (.str z) (.str z):=by
  refine ⟨rfl,?_,by simp [PyData.depth],by simp [PyData.showable],?_⟩
  · simp only [PyData.canLay0,PyData.strOk]
    rw [Array.all_eq_true']
    intro c hc
    exact decide_eq_true (h c (Array.mem_def.mp hc))
  · have:=PySem.StrLaws.reprText_len z fun c hc=>Nat.lt_trans (h c hc) (by decide)
    simp only [PyData.shown]
    omega
theorem int {i:Int} {k:Nat} (hk:0 < k) (h2:k<=500) (h0:0<=i) (h:i < 10 ^ k):Shw 0 k (.int i) (.int i):=by
  refine ⟨rfl,by simp [PyData.canLay0],by simp [PyData.depth],?_,?_⟩
  · simp only [PyData.showable]
    refine decide_eq_true ?_
    rcases Nat.eq_zero_or_pos i.natAbs with z | z
    · rw [z];decide
    refine (Nat.log2_lt (by omega)).mpr ?_
    have h3:i.natAbs < 10 ^ k:=by
      have:((i.natAbs:Nat):Int) < ((10 ^ k:Nat):Int):=by rw [Int.natAbs_of_nonneg h0];simpa using h
      exact Int.ofNat_lt.mp this
    refine Nat.lt_of_lt_of_le h3 (Nat.le_trans (Nat.pow_le_pow_right (by decide) h2) ?_)
    decide +kernel
  · simp only [PyData.shown]
    exact toString_length_le h0 hk h
theorem all:∀ {ds:List D} {ps:List PyData},ShwAll n L ds ps->D.pyAll ds=some ps/\PyData.canLayAll0 ps=true/\PyData.depthAll ps<=n/\PyData.showableAll ps=true/\(∀ t∈PyData.shownAll ps,t.length<=L)/\(PyData.shownAll ps).length=ds.length
  | _,_,.nil=>⟨by simp [D.pyAll],by simp [PyData.canLayAll0],by simp [PyData.depthAll],by simp [PyData.showableAll],by simp [PyData.shownAll],by simp [PyData.shownAll]⟩
  | _,_,.cons (d:=d) (p:=p) (ds:=ds) (ps:=ps) h t=>by
    obtain ⟨h1,h2,h3,h4,h5,h6⟩:=all t
    refine ⟨?_,?_,?_,?_,?_,?_⟩
    · unfold D.pyAll;rw [h.py,h1]
    · unfold PyData.canLayAll0;rw [h.lay,h2];rfl
    · unfold PyData.depthAll;exact Nat.max_le.mpr ⟨h.dp,h3⟩
    · unfold PyData.showableAll;rw [h.sw,h4];rfl
    · unfold PyData.shownAll
      intro t ht
      rcases List.mem_cons.mp ht with z | z
      · rw [z];exact h.ln
      · exact h5 t z
    · unfold PyData.shownAll;rw [List.length_cons,List.length_cons,h6]
theorem lst {ds:List D} {ps:List PyData} (h:ShwAll n L ds ps) (hl:ds.length<=m):Shw (n + 1) (m * (L + 2) + 2) (.lst ds) (.list ps):=by
  obtain ⟨h1,h2,h3,h4,h5,h6⟩:=all h
  refine ⟨by unfold D.py;rw [h1];rfl,by unfold PyData.canLay0;exact h2,by unfold PyData.depth;omega,by unfold PyData.showable;exact h4,?_⟩
  unfold PyData.shown listText
  rw [strLen_append]
  have:=agp L (PyData.shownAll ps) 0 "[" h5
  have e1:(("[":String):Str).length=1:=rfl
  have e2:(("]":String):Str).length=1:=rfl
  rw [h6] at this
  have:=Nat.mul_le_mul_right (L + 2) hl
  omega
theorem tup {ds:List D} {ps:List PyData} (h:ShwAll n L ds ps) (hl:ds.length<=m):Shw (n + 1) (m * (L + 2) + 3) (.tup ds) (.tuple ps):=by
  obtain ⟨h1,h2,h3,h4,h5,h6⟩:=all h
  refine ⟨by unfold D.py;rw [h1];rfl,by unfold PyData.canLay0;exact h2,by unfold PyData.depth;omega,by unfold PyData.showable;exact h4,?_⟩
  unfold PyData.shown tupleText
  rw [strLen_append,strLen_append]
  have e1:(("(":String):Str).length=1:=rfl
  have e2:((if (PyData.shownAll ps).length == 1 then ",)" else ")":String):Str).length<=2:=by split<;>decide
  have e3:(Str.join ", " (PyData.shownAll ps)).length<=m * (L + 2):=by
    have j:=amb L (PyData.shownAll ps) h5
    rw [h6] at j
    exact Nat.le_trans j (Nat.mul_le_mul_right _ hl)
  omega
end Shw
theorem Shw.shows {n L:Nat} {d:D} {p:PyData} (h:Shw n L d p) (hs:(∃ ds,d=.lst ds)\/∃ ds,d=.tup ds) (h1:n<=64) (h2:L<=szl):Shows d p:=⟨h.py,hs,by simp [SeqAt.shaped,h.lay,Nat.le_trans h.dp h1],h.sw,Nat.le_trans h.ln h2⟩
end DL
namespace DL
open PySem PySem.Spec PyProof.Rows L2
mutual
def datB (K:PySem.W.Frag):D->Value->Bool
  | .non,u=>(match u with | .none=>true | _=>false)
  | .bl b,u=>(match u with | .bool c=>b == c | _=>false)
  | .int i,u=>(match u with | .int j _=>decide (i=j) | _=>false)
  | .str x,u=>(match u with | .str y _=>decide (x=y) | _=>false)
  | .tup ds,u=>(match u with
    | .ref a=>(match K.lookup a with
      | some ⟨.type c,_,.seq its _,_⟩=>decide (c="tuple") && (decide (its.size<=sizeLine) && datsB K ds its.toList)
      | _=>false)
    | _=>false)
  | _,_=>false
def datsB (K:PySem.W.Frag):List D->List Value->Bool
  | [],us=>us.isEmpty
  | d::ds,us=>(match us with
    | u::r=>datB K d u && datsB K ds r
    | []=>false)
end
mutual
theorem ais {K:PySem.W.Frag}:∀ (d:D) (u:Value),datB K d u=true->∃ v,RelV v u/\∀ G,DOk K G v d
  | .non,u,h=>by
    unfold datB at h
    split at h
    · exact ⟨.non,rfl,fun _=>.non⟩
    · cases h
  | .bl b,u,h=>by
    unfold datB at h
    split at h
    · have e:=eq_of_beq h
      exact ⟨.bl b,by rw [e];rfl,fun _=>.bl b⟩
    · cases h
  | .int i,u,h=>by
    unfold datB at h
    split at h
    · rename_i t
      exact ⟨.int i,⟨t,by rw [of_decide_eq_true h]⟩,fun _=>.int i⟩
    · cases h
  | .str x,u,h=>by
    unfold datB at h
    split at h
    · rename_i t
      exact ⟨.str x,⟨t,by rw [of_decide_eq_true h]⟩,fun _=>.str x⟩
    · cases h
  | .tup ds,u,h=>by
    unfold datB at h
    split at h
    · rename_i a
      split at h
      · rename_i c od its n sl q
        obtain ⟨h1,h2⟩:=He.ba h
        obtain ⟨h3,h4⟩:=He.ba h2
        obtain ⟨vs,r,w⟩:=akG ds its.toList h4
        exact ⟨.ref a,rfl,fun G=>.tup (.inr ⟨_,its,n,q,congrArg Value.type (of_decide_eq_true h1),rfl,of_decide_eq_true h3,r⟩) (w G)⟩
      · cases h
    · cases h
  | .lst _,_,h=>by unfold datB at h;cases h
  | .ins _ _,_,h=>by unfold datB at h;cases h
  | .dk _,_,h=>by unfold datB at h;cases h
  | .dt _,_,h=>by unfold datB at h;cases h
  | .any,_,h=>by unfold datB at h;cases h
  | .raw _,_,h=>by unfold datB at h;cases h
  | .kt _,_,h=>by unfold datB at h;cases h
theorem akG {K:PySem.W.Frag}:∀ (ds:List D) (us:List Value),datsB K ds us=true->∃ vs,Vals vs us/\∀ G,DAll K G vs ds
  | [],us,h=>by
    unfold datsB at h
    rw [List.isEmpty_iff] at h
    subst h
    exact ⟨[],.nil,fun _=>.nil⟩
  | d::ds,us,h=>by
    unfold datsB at h
    split at h
    · rename_i u r
      obtain ⟨h1,h2⟩:=He.ba h
      obtain ⟨v,r1,w1⟩:=ais d u h1
      obtain ⟨vs,r2,w2⟩:=akG ds r h2
      exact ⟨v::vs,.cons r1 r2,fun G=>.cons (w1 G) (w2 G)⟩
    · cases h
end
def gloB (K:PySem.W.Frag) (q:Str × D):Bool:=match PySem.W.nsIn K mainGlobals q.1 with
  | some (some u)=>datB K q.2 u
  | _=>false
theorem ao7 {K:PySem.W.Frag} {h:Heap} {mg:Str->Option Value} (X:K.In h) (G:h.Ns mainGlobals mg) {x:Str} {d:D} (c:gloB K (x,d)=true):GlobD K mg x d:=by
  unfold gloB at c
  split at c
  · rename_i u e
    obtain ⟨v,r,w⟩:=ais d u c
    exact ⟨v,u,PySem.W.mg_of X G e,r,w⟩
  · cases c
def bltB (K:PySem.W.Frag) (q:Str × String):Bool:=He.eqO (PySem.W.nsIn K mainGlobals q.1) (some (some (.builtin q.2)))
abbrev AlX:Type:=Bool × He.AlD
structure LX where
  cs:List (Str × D)
  bs:List (Str × String)
  xs:List (PySem.W.Frag->Bool)
def lamOk (g:Addr->Option Obj) (K:PySem.W.Frag):Bool:=(lamFns K).all fun q=>PySem.W.codeHdIn K q.1 q.2.1 && ((match g q.2.1 with
  | some o=>He.emptyTab o
  | none=>false) && (lamFns K).all fun q'=>q.2.1 != q'.2.1 || q.2.2 == q'.2.2)
def LX.ok (l:LX) (g:Addr->Option Obj) (K:PySem.W.Frag):Bool:=(l.cs.all (gloB K) && (l.bs.all (bltB K) && l.xs.all fun x=>x K)) && lamOk g K
def valX (fn:List He.DefD):AlX:=(true,He.valD fn)
structure SaysX (l:LX) (fa:List He.Fa) (fn:List He.DefD) (h:Heap) (K:PySem.W.Frag):Prop where
  c:(l.cs.all (gloB K) && (l.bs.all (bltB K) && l.xs.all fun x=>x K))=true
  s:He.SaysD fa fn K
  tc:∀ q∈lamFns K,PySem.W.codeHdIn K q.1 q.2.1=true
  tn:∀ q∈lamFns K,K.lookup q.2.1=none
  te:∀ q∈lamFns K,h.get? q.2.1=some { cls:=.none,data:=.fields #[] }
  tu:LamUq K
section
variable {l:LX} {fa:List He.Fa} {fn:List He.DefD} {h h0:Heap} {K:PySem.W.Frag} {mg:Str->Option Value}
theorem SaysX.glob (S:SaysX l fa fn h0 K) (X:K.In h) (G:h.Ns mainGlobals mg) (i:Nat) {x:Str} {d:D} (e:l.cs[i]?=some (x,d):=by rfl):GlobD K mg x d:=
  ao7 X G (List.all_eq_true.mp (He.ba S.c).1 _ (List.mem_of_getElem? e))
theorem SaysX.blt (S:SaysX l fa fn h0 K) (X:K.In h) (G:h.Ns mainGlobals mg) (i:Nat) {x:Str} {b:String} (e:l.bs[i]?=some (x,b):=by rfl):mg x=some (.builtin b):=
  PySem.W.mg_of X G (He.eqO_ok (List.all_eq_true.mp (He.ba (He.ba S.c).2).1 _ (List.mem_of_getElem? e)))
end
theorem aoN {K:PySem.W.Frag} {x qual:Str} {params:Arguments} {body:List Stmt} {scope:Scope} {dvs:List V} {kws:List (Str × V)} {f:Addr} {fd:FuncData} (F:FunD K x qual params body scope dvs kws f fd) (h:lamNames.contains qual=true):∃ c,fd.code=.ref c/\(c,He.tabOf K c,qual++".<locals>."++"<lambda>")∈lamFns K:=by
  obtain ⟨oc,od,dV,kV,doc,pm,an,cdv,ct,osl,rfl,lk,hcd,_,_⟩:=F.ex
  obtain ⟨c,rfl⟩:=He.codeIn_ref hcd
  refine ⟨c,rfl,List.mem_filterMap.mpr ⟨_,He.lookup_mem lk,?_⟩⟩
  show (if lamNames.contains qual=true then some (c,He.tabOf K c,qual++".<locals>."++"<lambda>") else none)=_
  rw [if_pos h]
theorem amN {l:PySem.W.OpenLaw} {n k:Nat} {q:Program} {loose:List Str} {XP:(Str->Option Value)->Heap->Prop} {YP:World->Heap->Prop} {d:DefRec} {x:Str}
    (hn:l.most=some n) (hn2:n<=sizeLine) (hdf:d.params.defaults=[]) (hr:Room k callerA)
    (F:∀ (w:World) (mg:Str->Option Value) (fa:Addr) (h:Heap),YP w h->h.Ns mainGlobals mg->mg d.name=some (.ref fa)->
      ∃ (K:PySem.W.Frag) (fd:FuncData) (sp:Sp),K.In h/\(∀ (s:Shared) (u:Value),BindsTo s fd ⟨[u],[]⟩ [(x,u)])/\
        (∀ q∈lamFns K,h.get? q.2.1=some { cls:=.none,data:=.fields #[] })/\(∀ q∈lamFns K,K.lookup q.2.1=none)/\(∀ q∈lamFns K,PySem.W.codeHdIn K q.1 q.2.1=true)/\
        (∀ (H:Hp) (a:Addr) (ns:List Int),ns.length<=n->(∀ q∈lamFns K,H q.2.1=some (.tbl #[]))->SqL K H a (ns.map V.int)->sp [.ref a] H (fun v _=>v=.bl true) fun _ _ _=>False)/\
        ∀ base:Heap,K.In base->base.Ns mainGlobals mg->(∀ q∈lamFns K,LamX.TabB base mg q.1 q.2.1)->FnR l.prog w K mg base k fa fd [x] sp) :
    PySem.W.WalkO q loose XP YP l.row.toRowW d [] (fun f vs=>PySem.call f vs):=by
  refine Att.attach_call hn hdf fun w s0 s1 mg mb fa o pm cd doc a vs ns G Y ho hd hcd hmg hobj hints hlen hg=>?_
  obtain ⟨K,fd,sp,KX,hb,t1,t2,t3,hsp,hF⟩:=F w mg fa _ Y G.T.g hmg
  have im:∀ {p:Addr × Addr},p∈(lamFns K).map (fun q=>(q.1,q.2.1))->∃ q∈lamFns K,p=(q.1,q.2.1):=fun h=>by
    obtain ⟨q,hq,e⟩:=List.mem_map.mp h
    exact ⟨q,hq,e.symm⟩
  have mi:∀ q∈lamFns K,(q.1,q.2.1)∈(lamFns K).map (fun q=>(q.1,q.2.1)):=fun q hq=>List.mem_map.mpr ⟨q,hq,rfl⟩
  refine alV (cs:=(lamFns K).map fun q=>(q.1,q.2.1)) KX G.T.g G.T.b G.T.builtins G.T.nolimit hg (fun p hp=>?_) (fun p hp=>?_) (fun p hp=>?_) G.T.bmain hobj hints (Nat.le_trans hlen hn2) hr (fun base h1 h2 h3=>hF base h1 h2 fun q hq=>h3 _ (mi q hq)) hb fun H hT hS=>hsp H a ns hlen (fun q hq=>hT _ (mi q hq)) hS
  · obtain ⟨q,hq,rfl⟩:=im hp;exact t1 q hq
  · obtain ⟨q,hq,rfl⟩:=im hp;exact t2 q hq
  · obtain ⟨q,hq,rfl⟩:=im hp;exact PySem.W.codeHd_of_K KX (t3 q hq)
section
variable {K:PySem.W.Frag} {G H:Hp} {so:So} {σ:L2.St} {sl:DSt} {i:Nat} {o o':OO} {a:Addr} {u:HO}
theorem am7 {K:PySem.W.Frag} {G H:Hp} {a:Addr} {xs:List V} {o:OO} (w:OwnOk K G (upd H a (.tup xs)) a o):False:=by
  cases o with
  | lst ds=>obtain ⟨vs,e,_⟩:=w;rw [upd_same] at e;cases e
  | ins x C fs=>obtain ⟨_,dx,vs,e,_⟩:=w;rw [upd_same] at e;cases e
  | dk kvs=>obtain ⟨vs,e,_⟩:=w;rw [upd_same] at e;cases e
  | dt kvs=>obtain ⟨vs,e,_⟩:=w;rw [upd_same] at e;cases e
theorem PostS.mut (r:Rep K G so σ H sl) (e1:sl[i]?=some (some (.own o))) (e2:σ[i]?=some (some (.ref a))) (w:OwnOk K G (upd H a u) a o'):PostS K G so σ H sl σ (upd H a u) G (sl.set i (some (.own o'))):=by
  have ow:Own sl σ a:=⟨i,o,e1,e2⟩
  obtain ⟨na,ga,sa⟩:=r.nown ow
  have li:i < sl.length:=(List.getElem?_eq_some_iff.mp e1).1
  have ba:∀ b,Own (sl.set i (some (.own o'))) σ b->Own sl σ b:=fun b ⟨j,o2,f1,f2⟩=>by
    rcases get_set f1 with ⟨rfl,f3⟩ | ⟨nj,f3⟩
    · exact ⟨j,o,e1,f2⟩
    · exact ⟨j,o2,f3,f2⟩
  have gn:∀ b q,G b=some q->b≠a:=fun b q h z=>by subst z;rw [ga] at h;cases h
  refine ⟨Ex.refl G,⟨⟨fun b q h=>by rw [upd_ne (gn b q h)];exact r.h.ex b q h,fun b k e=>(r.h.vol b k e).keep (Ex.refl G) (r.h.vol b k e).g (upd_ne fun z=>sa (by rw [<- z];exact ⟨k,e⟩)),r.h.ok,aea r.h.tp (fun xs z=>by subst z;exact am7 w)⟩,by rw [List.length_set];exact r.len,fun j dv f=>?_,fun j k p p' b f1 f2 g1 g2=>?_,fun j p b f1 f2 z=>?_,fun j p f=>?_⟩,
    fun b q h s n=>by rw [upd_ne (fun z=>n (by rw [z];exact ow))];exact h,fun _ _ g _ _=>g,fun b _ _ n z=>n (ba b z),rfl⟩
  · rcases get_set f with ⟨rfl,f3⟩ | ⟨nj,f3⟩
    · cases f3
      exact ⟨_,e2,a,rfl,ga,sa,w⟩
    · obtain ⟨v,f4,f5⟩:=r.slots j dv f3
      refine ⟨v,f4,?_⟩
      cases dv with
      | d x=>exact f5
      | src=>exact f5
      | own p=>
        obtain ⟨b,rfl,gb,sb,ok⟩:=f5
        have nb:b≠a:=fun z=>nj (r.sep j i p o b f3 e1 f4 (by rw [z];exact e2))
        exact ⟨b,rfl,gb,sb,ok.keep (Ex.refl G) (upd_ne nb)⟩
      | bor p=>
        obtain ⟨b,rfl,sb,ok⟩:=f5
        have nb:b≠a:=fun z=>r.bor j p b f3 f4 (by rw [z];exact ow)
        exact ⟨b,rfl,sb,ok.keep (Ex.refl G) (upd_ne nb)⟩
      | see p=>exact absurd f3 (r.nse j p)
      | mu y D gs=>exact SlOk.muU f5 (Ex.refl _) sa
      | gh _ _=>exact SlOk.ghU f5 (Ex.refl _) sa
  · have h1:∃ q,sl[j]?=some (some (.own q)):=by
      rcases get_set f1 with ⟨rfl,_⟩ | ⟨_,z⟩
      · exact ⟨_,e1⟩
      · exact ⟨_,z⟩
    have h2:∃ q,sl[k]?=some (some (.own q)):=by
      rcases get_set f2 with ⟨rfl,_⟩ | ⟨_,z⟩
      · exact ⟨_,e1⟩
      · exact ⟨_,z⟩
    obtain ⟨q1,h1⟩:=h1
    obtain ⟨q2,h2⟩:=h2
    exact r.sep j k q1 q2 b h1 h2 g1 g2
  · rcases get_set f1 with ⟨_,f3⟩ | ⟨_,f3⟩
    · cases f3
    · exact r.bor j p b f3 f2 (ba b z)
  · rcases get_set f with ⟨_,f3⟩ | ⟨_,f3⟩
    · cases f3
    · exact r.nse j p f3
end
theorem FAll.length {K:PySem.W.Frag} {G:Hp}:∀ {vs:List (Str × V)} {fs:List (Str × D)},FAll K G vs fs->vs.length=fs.length
  | _,_,.nil=>rfl
  | _,_,.cons _ t=>congrArg (· + 1) t.length
def DV.inst:DV->Option (Addr × List (Str × D))
  | .d (.ins C fs)=>some (C,fs)
  | .own (.ins _ C fs)=>some (C,fs)
  | .bor (.ins _ C fs)=>some (C,fs)
  | .see (.ins _ C fs)=>some (C,fs)
  | _=>none
@[irreducible] def fldR (K:PySem.W.Frag) (f:Str) (x:DV) (Q:DV->Prop):Prop:=match x.inst with
  | some (C,fs)=>Cls K C/\NoAttr K C f/\match fs.lookup f with
    | some d=>Q (.d d)
    | none=>False
  | none=>False
section
variable {K:PySem.W.Frag} {G H:Hp} {so:So} {v:V} {dv:DV} {C:Addr} {fs:List (Str × D)}
theorem VOk.inst (h:HRep K G so H) (w:VOk K G so H v dv) (e:dv.inst=some (C,fs)):∃ a dx vs,v=.ref a/\H a=some (.ins C dx vs)/\FAll K G vs fs:=by
  unfold DV.inst at e
  split at e
  · cases e
    cases w with
    | ins g g2 t=>exact ⟨_,_,_,rfl,h.ex _ _ g,t⟩
  · cases e;obtain ⟨a,rfl,_,_,_,dx,vs,h1,_,h2⟩:=w;exact ⟨a,dx,vs,rfl,h1,h2⟩
  · cases e;obtain ⟨a,rfl,_,_,dx,vs,h1,_,h2⟩:=w;exact ⟨a,dx,vs,rfl,h1,h2⟩
  · cases e;obtain ⟨a,rfl,_,_,dx,vs,h1,_,h2⟩:=w;exact ⟨a,dx,vs,rfl,h1,h2⟩
  · cases e
theorem aok {f:Str}:UnSem K (fun x H1 Q=>∃ a C dx fs v,x=.ref a/\H1 a=some (.ins C dx fs)/\Cls K C/\NoAttr K C f/\fs.lookup f=some v/\Q v H1) (fldR K f):=by
  intro G so H x dx Q R h w q hq
  unfold fldR at q
  split at q
  · rename_i C fs e
    obtain ⟨c,n,q⟩:=q
    split at q
    · rename_i d e2
      obtain ⟨a,dd,vs,rfl,h1,h2⟩:=w.inst h e
      obtain ⟨u,e3,e4⟩:=h2.look e2
      exact ⟨a,C,dd,vs,u,rfl,h1,c,n,e3,hq u H G _ (.dat h e4) q⟩
    · exact q.elim
  · exact q.elim
end
section
variable {X:Cx} {W:WX} {e o value:Expr} {f:Str} {pos pos':Pos} {te:TD} {i:Nat}
theorem aeu {K:PySem.W.Frag} (he:DE X W e te) (hK:X.K=K:=by rfl) (hb:attributeBase e f X.env (eval e X.env)=eval e X.env:=by rfl):DE X W (.Attribute e f pos) (dUn (fldR K f) te):=by
  subst hK
  exact aaD (pe_fld he hb) fun _ _ _ h=>up_un aok h
end
abbrev SpI:=List DV->(List (Str × D)->Prop)->XE'->Prop
structure PostX (K:PySem.W.Frag) (G:Hp) (so:So) (H:Hp) (x:Addr) (H' G':Hp):Prop where
  ex:Ex G G'
  hrep:HRep K G' so H'
  keep:∀ a o,H a=some o->so.Nt a->a≠x->H' a=some o
  frm:∀ a,H a≠none->G a=none->so.Nt a->a≠x->G' a=none
def noZero:List Sel->Bool
  | []=>true
  | .pos 0::_=>false
  | _::r=>noZero r
theorem ae8 {v v':V} {vs qs:List V}:∀ {sel:List Sel},noZero sel=true->sel.map (pickV (v::vs) qs)=sel.map (pickV (v'::vs) qs)
  | [],_=>rfl
  | .pos 0::_,h=>by cases h
  | .pos (i + 1)::r,h=>by rw [List.map_cons,List.map_cons,ae8 (sel:=r) h];rfl
  | .kw j::r,h=>by rw [List.map_cons,List.map_cons,ae8 (sel:=r) h];rfl
  | .dfl a b::r,h=>by rw [List.map_cons,List.map_cons,ae8 (sel:=r) h];rfl
section
variable {X:Cx} {W:WX} {k n:Nat} {f C:Addr} {fd:FuncData} {ps ks:List Str} {sp:SpI} {sel:List Sel} {x nm:Str} {p pos kpos:Pos} {e:Expr} {es:List Expr} {kws:List Keyword} {ta tk tk':TDA} {te:TD}
end
def dMeth (sp:SpD) (C:Addr) (m:Str) (n l:Nat) (sel:List Sel) (to:TD) (ta tk:TDA):TD:=fun sl Q E=>to sl (fun x s0=>match pubV x with
  | .d (.ins D fs)=>D=C/\fs.lookup m=none/\ta s0 (fun xs s1=>tk s1 (fun ys s2=>xs.length=n/\ys.length=l/\sp (sel.map (pickD (.d (.ins D fs)::xs) ys)) (fun v=>Q v s2) fun cls fs=>E cls fs s2) E) E
  | _=>False) E
section
variable {X:Cx} {W:WX} {k n:Nat} {f C:Addr} {fd:FuncData} {ps ks:List Str} {sp:SpD} {sel:List Sel} {m nm:Str} {p pos apos kpos:Pos} {o e:Expr} {es:List Expr} {kws:List Keyword} {ta tk tk':TDA} {to te:TD} {pl:Sem Bool}
theorem amv (he:DE X W o to) (c:Cls X.K C) (hm:Meth X.K C m f) (F:FnG X.prog X.w X.K X.mg X.base k f fd ps sp) (hr:Room k X.A) (hgd:X.A.guards=some []) (tk:L2N.Takes X W) (hb:Bd X.K fd ps (n + 1) [] sel) (ha:DA X W (e::es) ta)
    (hst:starEach (e::es) X.env=(false,eval e X.env)::starEach es X.env:=by rfl) (hpl:(backTo pos (starEach es X.env)).any (·.1)=false:=by rfl)
    (ht:eval (.Call (.Attribute o m apos) (e::es) [] pos) X.env=(do
      let ov <- eval o X.env
      standAt apos.atName
      let (f,first) <- holding [ov] (getMethod ov m pl)
      callWith pos f first (backTo pos (starEach (e::es) X.env)) (backToKw pos (keywordEach [] X.env))):=by rfl) :
    DE X W (.Call (.Attribute o m apos) (e::es) [] pos) (dMeth sp C m n 0 sel to ta dNil):=by
  refine ⟨fun pins s σ H Q I ⟨G,so,sl,Q',E,rep,q,hq,hx⟩=>?_⟩
  refine PySem.W.methodCall_KW (pl:=pl) (thn (he.run pins s σ H (fun v H1=>∃ G1 s1 fs,PostE X.K G so σ H sl v H1 G1 (.d (.ins C fs)) s1/\fs.lookup m=none/\ta s1 (fun xs s2=>dNil s2 (fun ys s3=>xs.length=n/\ys.length=0/\sp (sel.map (pickD (.d (.ins C fs)::xs) ys)) (fun v=>Q' v s3) fun cls fs=>E cls fs s3) E) E) I
    ⟨G,so,sl,_,E,rep,q,fun v H1 G1 dv s1 p1 z=>?_,hx⟩) fun u s1 ⟨x,H1,I1,rx,G1,sl1,fs,p1,l,z⟩=>?_) ht
  · obtain ⟨G2,p2⟩:=p1.pub
    split at z
    · rename_i D fs ed
      obtain ⟨rfl,l,z⟩:=z
      exact ⟨G2,s1,fs,by rw [<- ed];exact p2,l,z⟩
    · exact z.elim
  · obtain ⟨a,dx,vs,ex,ea,fa⟩:=VOk.inst p1.rep.h p1.val rfl
    subst ex
    obtain rfl:u=Value.ref a:=rx
    refine getmeth_ok I1 ea c hm (fa.lookN l) ?_
    refine PySem.W.callWith_K (first:=[.ref a]) (h₀:=X.base) I.ok.mod.kin hm.kp (thn (ha.run pos pins s1 σ H1 (fun vs H2=>∃ G2 ds s2,Post X.K G1 so σ H1 sl1 H2 G2 s2/\VsOk X.K G2 so H2 vs ds/\ds.length=n/\sp (sel.map (pickD (.d (.ins C fs)::ds) [])) (fun v=>Q' v s2) fun cls fs=>E cls fs s2) I1
      ⟨G1,so,sl1,_,E,p1.rep,z,fun vs H2 G2 ds s2 p2 w z=>⟨G2,ds,s2,p2,w,z.1,z.2.2⟩,hx.step p1.toPost⟩) fun us s2 ⟨vs2,H2,I2,r,G2,ds,sl2,p2,w,l1,z⟩=>⟨I2.kIn,?_⟩) hst hpl
    exact ahY (us:=.ref a::us) (vs:=.ref a::vs2) (ds:=.d (.ins C fs)::ds) (ws:=[]) (qs:=[]) (es:=[]) F hr hgd tk hb I2 p2.rep (.cons rfl r) .nil (.cons (p1.over p2) (fun _ e=>(nomatch e)) w) .nil (by rw [List.length_cons,l1]) rfl z (fun v H' G' dv sl' pe z'=>hq v H' G' dv sl' ((p1.toPost.trans p2).thenE pe) z') (hx.step (p1.toPost.trans p2))
theorem aga (he:DE X W o to) (c:Cls X.K C) (hm:Meth X.K C m f) (F:FnG X.prog X.w X.K X.mg X.base k f fd ps sp) (hr:Room k X.A) (hgd:X.A.guards=some []) (tk:L2N.Takes X W) (hb:Bd X.K fd ps (0 + 1) [] sel)
    (ht:eval (.Call (.Attribute o m apos) [] [] pos) X.env=(do
      let ov <- eval o X.env
      standAt apos.atName
      let (f,first) <- holding [ov] (getMethod ov m pl)
      callWith pos f first (backTo pos (starEach [] X.env)) (backToKw pos (keywordEach [] X.env))):=by rfl) :
    DE X W (.Call (.Attribute o m apos) [] [] pos) (dMeth sp C m 0 0 sel to dNil dNil):=by
  refine ⟨fun pins s σ H Q I ⟨G,so,sl,Q',E,rep,q,hq,hx⟩=>?_⟩
  refine PySem.W.methodCall_KW (pl:=pl) (thn (he.run pins s σ H (fun v H1=>∃ G1 s1 fs,PostE X.K G so σ H sl v H1 G1 (.d (.ins C fs)) s1/\fs.lookup m=none/\sp (sel.map (pickD [.d (.ins C fs)] [])) (fun v=>Q' v s1) fun cls fs=>E cls fs s1) I
    ⟨G,so,sl,_,E,rep,q,fun v H1 G1 dv s1 p1 z=>?_,hx⟩) fun u s1 ⟨x,H1,I1,rx,G1,sl1,fs,p1,l,z⟩=>?_) ht
  · obtain ⟨G2,p2⟩:=p1.pub
    split at z
    · rename_i D fs ed
      obtain ⟨rfl,l,z⟩:=z
      exact ⟨G2,s1,fs,by rw [<- ed];exact p2,l,z.2.2⟩
    · exact z.elim
  · obtain ⟨a,dx,vs,ex,ea,fa⟩:=VOk.inst p1.rep.h p1.val rfl
    subst ex
    obtain rfl:u=Value.ref a:=rx
    refine getmeth_ok I1 ea c hm (fa.lookN l) ?_
    exact PySem.W.callWith_K0 (first:=[.ref a]) I1.kIn hm.kp (ahY (us:=[.ref a]) (vs:=[.ref a]) (ds:=[.d (.ins C fs)]) (ws:=[]) (qs:=[]) (es:=[]) F hr hgd tk hb I1 p1.rep (.cons rfl .nil) .nil (.cons p1.val (fun _ e=>(nomatch e)) .nil) .nil rfl rfl z (fun v H' G' dv sl' pe z'=>hq v H' G' dv sl' (p1.toPost.thenE pe) z') (hx.step p1.toPost))
theorem amu (he:DE X W o to) (c:Cls X.K C) (hm:Meth X.K C m f) (F:FnG X.prog X.w X.K X.mg X.base k f fd ps sp) (hr:Room k X.A) (hgd:X.A.guards=some []) (tk:L2N.Takes X W) (hb:Bd X.K fd ps (0 + 1) ks sel) (hkw:DK X W kws tk')
    (hall:(backToKw pos (keywordEach kws X.env)).all (·.1.isSome)=true:=by rfl) (hks:(backToKw pos (keywordEach kws X.env)).filterMap (·.1)=ks:=by rfl)
    (hpl:((backTo pos (starEach [] X.env)).any (·.1) || (backToKw pos (keywordEach kws X.env)).any (·.1.isNone))=false:=by rfl)
    (ht:eval (.Call (.Attribute o m apos) [] kws pos) X.env=(do
      let ov <- eval o X.env
      standAt apos.atName
      let (f,first) <- holding [ov] (getMethod ov m pl)
      callWith pos f first (backTo pos (starEach [] X.env)) (backToKw pos (keywordEach kws X.env))):=by rfl) :
    DE X W (.Call (.Attribute o m apos) [] kws pos) (dMeth sp C m 0 ks.length sel to dNil tk'):=by
  refine ⟨fun pins s σ H Q I ⟨G,so,sl,Q',E,rep,q,hq,hx⟩=>?_⟩
  refine PySem.W.methodCall_KW (pl:=pl) (thn (he.run pins s σ H (fun v H1=>∃ G1 s1 fs,PostE X.K G so σ H sl v H1 G1 (.d (.ins C fs)) s1/\fs.lookup m=none/\tk' s1 (fun ys s3=>([]:List DV).length=0/\ys.length=ks.length/\sp (sel.map (pickD [.d (.ins C fs)] ys)) (fun v=>Q' v s3) fun cls fs=>E cls fs s3) E) I
    ⟨G,so,sl,_,E,rep,q,fun v H1 G1 dv s1 p1 z=>?_,hx⟩) fun u s1 ⟨x,H1,I1,rx,G1,sl1,fs,p1,l,z⟩=>?_) ht
  · obtain ⟨G2,p2⟩:=p1.pub
    split at z
    · rename_i D fs ed
      obtain ⟨rfl,l,z⟩:=z
      exact ⟨G2,s1,fs,by rw [<- ed];exact p2,l,z⟩
    · exact z.elim
  · obtain ⟨a,dx,vs,ex,ea,fa⟩:=VOk.inst p1.rep.h p1.val rfl
    subst ex
    obtain rfl:u=Value.ref a:=rx
    refine getmeth_ok I1 ea c hm (fa.lookN l) ?_
    refine PySem.W.callWith_KW0 (first:=[.ref a]) (h₀:=X.base) I.ok.mod.kin hm.kp hall ?_ hpl
    refine thn (hkw.run pos pins s1 σ H1 (fun qs H3=>∃ G3 es s3,Post X.K G1 so σ H1 sl1 H3 G3 s3/\VsOk X.K G3 so H3 qs es/\es.length=ks.length/\sp (sel.map (pickD [.d (.ins C fs)] es)) (fun v=>Q' v s3) fun cls fs=>E cls fs s3) I1
      ⟨G1,so,sl1,_,E,p1.rep,z,fun qs H3 G3 es s3 p3 w3 z=>⟨G3,es,s3,p3,w3,z.2.1,z.2.2⟩,hx.step p1.toPost⟩) fun ws s3 ⟨qs,H3,I3,r2,G3,es,sl3,p3,w3,l2,z⟩=>⟨I3.kIn,?_⟩
    rw [hks]
    exact ahY (us:=[.ref a]) (vs:=[.ref a]) (ds:=[.d (.ins C fs)]) F hr hgd tk hb I3 p3.rep (.cons rfl .nil) r2 (.cons (p1.over p3) (fun _ e=>(nomatch e)) .nil) w3 rfl l2 z (fun v H' G' dv sl' pe z'=>hq v H' G' dv sl' ((p1.toPost.trans p3).thenE pe) z') (hx.step (p1.toPost.trans p3))
end
section
variable {X:Cx} {K:PySem.W.Frag} {W:WX} {a b:Expr} {ta tb:TD} {pos:Pos}
def rMulU:R2:=fun x y H Q=>(rI CMulW fun i j=>.int (i * j)) x y H Q\/rRep x y H Q
theorem aoC:OpR X (binaryOp .Mult) rMulU:=fun pins s σ H x y v u Q I rx ry h=>h.elim (fun h=>op_mulW pins s σ H x y v u Q I rx ry h) fun h=>op_rep pins s σ H x y v u Q I rx ry h
theorem DAll.rep {K:PySem.W.Frag} {G:Hp} {vs:List V} {ds:List D} (h:DAll K G vs ds):∀ n:Nat,DAll K G (List.replicate n vs).flatten (List.replicate n ds).flatten
  | 0=>.nil
  | n + 1=>by rw [List.replicate_succ,List.replicate_succ,List.flatten_cons,List.flatten_cons];exact h.append (h.rep n)
theorem aoi:OpSem K rMulU mulR:=by
  intro G so H x y dx dy Q R h w1 w2 q k
  unfold mulR at q
  split at q
  · cases w1;cases w2
    exact .inl ⟨_,_,rfl,rfl,q.1,k _ H G _ (.dat h (.int _)) q.2⟩
  · rename_i c _
    cases w2
    split at q
    · rename_i ds e
      obtain ⟨l,vs,rfl,h1,h2⟩:=w1.list h e
      obtain ⟨q1,q2,q3,q4⟩:=q
      exact .inr ⟨l,c,vs,rfl,rfl,h1,q1,q2,by rw [h2.length];exact q3,fun p np=>k _ _ G _ (.list h np (h2.rep _)) q4⟩
    · exact q.elim
  · exact q.elim
theorem aes (ha:DE X W a ta) (hb:DE X W b tb):DE X W (.BinOp a .Mult b pos) (dOp mulR ta tb):=ak4 aoC aoi ha hb
end
theorem aeO {Q:DV->Prop} {i j:Int} (h:CMulW i j) (q:Q (.d (.int (i * j)))):mulR (.d (.int i)) (.d (.int j)) Q:=by unfold mulR;exact ⟨h,q⟩
theorem ap1 {Q:DV->Prop} {v:DV} {ds:List D} {k:Int} (hv:v.items=some ds) (h1:-(2 ^ 63)<=k) (h2:k < 2 ^ 63) (h3:ds.length * k.toNat<=szl) (q:Q (.own (.lst (List.replicate k.toNat ds).flatten))):mulR v (.d (.int k)) Q:=by
  rcases items_cases hv with e | e | e | e<;>subst e<;>(unfold mulR;dsimp only [DV.items];exact ⟨h1,h2,h3,q⟩)
section
variable {X:Cx} {K:PySem.W.Frag}
end
def dPar (i j:Nat) (ta:TDA):TDS:=fun E sl=>ta sl (fun vs s1=>match vs with
  | [.d x,.d y]=>E.nx ((s1.set i (some (.d x))).set j (some (.d y)))
  | _=>False) E.xc
theorem PostE.ofD {K:PySem.W.Frag} {G G1:Hp} {so:So} {σ:L2.St} {H H1:Hp} {sl s1:DSt} {v:V} {x:D} (p:Post K G so σ H sl H1 G1 s1) (w:DOk K G1 v x):PostE K G so σ H sl v H1 G1 (.d x) s1:=
  { p with val:=w,new:=fun _ _ e=>(nomatch e),sepv:=fun _ _ e=>e.elim (fun e=>(nomatch e)) fun e=>(nomatch e),nbs:=fun _ _ _ _ e=>(nomatch e) }
section
variable {X:Cx} {W:WX} {pos:Pos} {i j:Nat} {x y:Str} {a b:Expr} {ta:TDA}
theorem an6 {px py pt kt k2 pt2} (hc:X.calm=true) (hN:X.N.Nodup) (hi:X.N[i]?=some x) (hj:X.N[j]?=some y) (hij:i≠j)
    (hx:X.env.scope.names.lookup x=some .local) (hy:X.env.scope.names.lookup y=some .local) (ha:DA X W [a,b] ta)
    (hw:swappedStores [.Tuple [.Name x px,.Name y py] kt pt] (.Tuple [a,b] k2 pt2) X.env=pure (some [x,y]))
    (hs:swapsWithSole [.Tuple [.Name x px,.Name y py] kt pt] (.Tuple [a,b] k2 pt2) pos.line X.env=pure false:=by rfl) :
    DS X W (.Assign [.Tuple [.Name x px,.Name y py] kt pt] (.Tuple [a,b] k2 pt2) pos) (dPar i j ta):=by
  refine aiZ (ps_par hc hN hi hj hij hx hy ha hw hs) fun D σ H hl ⟨G,so,sl,E,rep,q,ok⟩=>?_
  have li:i < σ.length:=by rw [hl];exact (List.getElem?_eq_some_iff.mp hi).1
  have lj:j < σ.length:=by rw [hl];exact (List.getElem?_eq_some_iff.mp hj).1
  refine ⟨G,so,sl,_,E.xc,rep,q,fun vs H1 G1 ds s1 p w z=>?_,ok.xc.ex⟩
  split at z
  · rename_i d1 d2
    obtain ⟨v1,v2,rfl,w1,w2,_⟩:=w.v2
    have n1:∀ o,DV.d d1≠.see o:=fun _ e=>(nomatch e)
    have n2:∀ o,DV.d d2≠.see o:=fun _ e=>(nomatch e)
    have p1:=(PostE.ofD (x:=d1) p w1).set li n1
    have p2:=(PostE.ofD (x:=d2) (Post.refl p1.rep) w2).set (i:=j) (by rw [List.length_set];exact lj) n2
    exact ⟨v1,v2,rfl,ok.nx _ H1 G1 _ (p1.trans p2) z⟩
  · exact z.elim
end
theorem aoB {ta:TDA} {u:TDS} {E:EndsD} {sl s':DSt} {i j:Nat} (x y:D) (h:∀ Q:List DV->DSt->Prop,Q [.d x,.d y] s'->ta sl Q E.xc) (q:u E ((s'.set i (some (.d x))).set j (some (.d y)))):dSeq (dPar i j ta) u E sl:=h _ q
def tysD:List D->Option (List String)
  | []=>some []
  | .raw (.ty T)::r=>(tysD r).map (T::·)
  | _=>none
def kitBs (t:String):List String->Option Bool
  | []=>some false
  | T::r=>match kitB t T with
    | some true=>some true
    | some false=>kitBs t r
    | none=>none
def rIsiS (K:PySem.W.Frag):List V->Hp->VK->Prop:=fun xs H Q=>∃ (x:V) (tp:Addr) (cs:List V) (t:Value) (us:List Value) (b:Bool),xs=[x,.ref tp]/\SqT K H tp cs/\Paired ClsV cs us/\TyX K H x t/\PySem.W.kitAny K t us=some b/\Q (.bl b) H
theorem ajp {X:Cx}:CallR X (.builtin "isinstance") (rIsiS X.K):=by
  intro pins s σ H xs us Q I r h
  obtain ⟨x,tp,cs,t,ws,b,rfl,hT,k,ty,e,q⟩:=h
  obtain ⟨u1,u2,rfl,r1,r2⟩:=vals2 r
  cases (show u2=Value.ref tp from r2)
  obtain ⟨P,Z,p,hx⟩:=kit_of I r1 ty
  obtain ⟨its,rv,⟨o,h1,h2,n,h3⟩,_⟩:=I.tuple hT
  have e3:=ClsV.all k rv
  subst e3
  obtain ⟨oc,od,dt,sl⟩:=o
  simp only at h2 h3
  subst h2 h3
  exact PySem.W.kia_tup Z I.kIn p h1 e hx fun tk=>⟨.bl b,H,I.tok tk,rfl,q⟩
@[irreducible] def isiTR:List DV->(DV->Prop)->Prop
  | [v,.d (.tup ts)],Q=>match v.dat,tysD ts with
    | some d,some Ts=>match tyD d with
      | some t=>match kitBs t Ts with
        | some b=>Q (.d (.bl b))
        | none=>False
      | none=>False
    | _,_=>False
  | _,_=>False
theorem anH {K:PySem.W.Frag} {G:Hp}:∀ {vs:List V} {ts:List D} {Ts:List String},DAll K G vs ts->tysD ts=some Ts->Paired ClsV vs (Ts.map Value.type)
  | _,_,_,.nil,e=>by cases e;exact .nil
  | _,_,_,.cons (d:=.raw (.ty T)) h t,e=>by
    unfold tysD at e
    rename_i ds
    cases z:tysD ds with
    | none=>rw [z] at e;cases e
    | some Us=>rw [z] at e;cases e;cases h;exact .cons (.ty _) (anH t z)
theorem kits_ok {K:PySem.W.Frag} {t:String}:∀ {Ts:List String} {b:Bool},kitBs t Ts=some b->PySem.W.kitAny K (.type t) (Ts.map Value.type)=some b
  | [],_,e=>by cases e;rfl
  | T::r,b,e=>by
    unfold kitBs at e
    rw [List.map_cons]
    unfold PySem.W.kitAny
    split at e
    · rename_i h;cases e;rw [kit_ty h]
    · rename_i h;rw [kit_ty h];exact kits_ok e
    · cases e
theorem akf {K:PySem.W.Frag}:CallSem K (rIsiS K) isiTR:=by
  intro G so H xs dxs Q R h w q k
  unfold isiTR at q
  split at q
  · obtain ⟨v,v',rfl,w1,w2,_⟩:=w.v2
    split at q
    · rename_i d Ts e1 e2
      split at q
      · rename_i t et
        split at q
        · rename_i b eb
          cases w2 with
          | tup sq al=>exact ⟨_,_,_,_,_,b,rfl,ex_t h.ex sq,anH al e2,amR h w1 e1 et,kits_ok eb,k _ H G _ (.dat h (.bl _)) q⟩
        · exact q.elim
      · exact q.elim
    · exact q.elim
  · exact q.elim
theorem ap3 {Q:DV->Prop} {v:DV} {d:D} {ts:List D} {Ts:List String} {t:String} {b:Bool} (h1:v.dat=some d) (h2:tysD ts=some Ts) (h3:tyD d=some t) (h4:kitBs t Ts=some b) (q:Q (.d (.bl b))):isiTR [v,.d (.tup ts)] Q:=by
  unfold isiTR
  dsimp only
  rw [h1,h2]
  dsimp only
  rw [h3]
  dsimp only
  rw [h4]
  exact q
theorem aqx {K:PySem.W.Frag} {x qual:Str} {params:Arguments} {body:List Stmt} {scope:Scope} {kws:List (Str × V)} {f:Addr} {fd:FuncData} {ps ks:List Str} {n:Nat} {sel:List Sel} (F:FunD K x qual params body scope [] kws f fd) (ms:List (Str × V)) (hk:kws≠[]) (hms:∀ q∈ms,q∈kws) (g:{α:Type}->List α->List α->List α->List α)
    (hrel:∀ {vs mz zs:List V} {us mv ws:List Value},Vals vs us->Vals mz mv->Vals zs ws->Vals (g vs mz zs) (g us mv ws))
    (h:∀ (D:Addr) (doc pm:Value) (an:Option Addr) (cdv ct:Value) (us mv ws:List Value),us.length=n->mv.length=ms.length->ws.length=ks.length->
      KwChain D ((ms.map (·.1)).zip mv) (bindArgs (PySem.W.fnOf x qual params body scope .none (.ref D) doc pm an cdv ct) ⟨us,ks.zip ws⟩) (ps.zip (g us mv ws)))
    (hv:∀ (vs qs:List V),vs.length=n->qs.length=ks.length->sel.map (pickV vs qs)=g vs (ms.map (·.2)) qs) (hs:∀ s∈sel,∀ (v:V) (d:D),s=.dfl v d->∀ G,DOk K G v d):Bd K fd ps n ks sel:=by
  obtain ⟨mv,B⟩:=F.kbinds0 (ps:=ps) n ks ms g hk hms hrel h
  exact ⟨fun s us ws vs qs X l1 l2 r1 r2=>⟨_,B.to s us ws X l1 l2,by rw [hv vs qs (r1.length.trans l1) (r2.length.trans l2)];exact B.rel r1 r2⟩,hs⟩
abbrev rt (n d:Int):D:=.tup [.int n,.int d]
def rD (q:Rat):D:=rt q.num (q.den:Int)
def gcI (n d:Int):Int:=((Nat.gcd n.natAbs d.natAbs:Nat):Int)
theorem amj {n d:Int} (h:0 < d):0 < gcI n d:=by
  unfold gcI
  have:0 < Nat.gcd n.natAbs d.natAbs:=Nat.gcd_pos_of_pos_right _ (by omega)
  omega
theorem alM {n d:Int} (h:0 < d):(Rat.divInt n d).num=n / gcI n d:=by
  rw [Rat.num_divInt,Int.sign_eq_one_of_pos h,Int.one_mul]
  unfold gcI
  rw [Int.gcd_comm];rfl
theorem alN {n d:Int} (h:0 < d):((Rat.divInt n d).den:Int)=d / gcI n d:=by
  rw [Rat.den_divInt,if_neg (by omega),Int.gcd_comm]
  show ((d.natAbs / Nat.gcd n.natAbs d.natAbs:Nat):Int)=d / ((Nat.gcd n.natAbs d.natAbs:Nat):Int)
  rw [Int.natCast_ediv,Int.natAbs_of_nonneg (by omega)]
theorem alA {n d:Int} (h:0 < d):rD (Rat.divInt n d)=rt (n / gcI n d) (d / gcI n d):=by
  unfold rD;rw [alM h,alN h]
theorem den_pos (q:Rat):(0:Int) < (q.den:Int):=by have:=q.den_pos;omega
theorem af4 (q:Rat):Rat.divInt q.num (q.den:Int)=q:=Rat.num_divInt_den q
theorem ahZ (p q:Rat):Rat.divInt (p.num * q.den + q.num * p.den) ((p.den:Int) * q.den)=p + q:=by
  have h1:(p.den:Int)≠0:=by have:=den_pos p;omega
  have h2:(q.den:Int)≠0:=by have:=den_pos q;omega
  rw [<- Rat.divInt_add_divInt _ _ h1 h2,af4,af4]
theorem anN (p q:Rat):decide (p.num * (q.den:Int) < q.num * p.den)=decide (p < q):=decide_eq_decide.mpr (Rat.lt_iff p q).symm
structure Nb (B:Nat) (q:Rat):Prop where
  n:q.num.natAbs < 2 ^ B
  d:q.den < 2 ^ B
theorem Nb.mono {B C:Nat} {q:Rat} (h:Nb B q) (le:B<=C):Nb C q:=⟨Nat.lt_of_lt_of_le h.n (Nat.pow_le_pow_right (by decide) le),Nat.lt_of_lt_of_le h.d (Nat.pow_le_pow_right (by decide) le)⟩
theorem apQ {n d:Int} {B:Nat} (h:0 < d) (h1:n.natAbs < 2 ^ B) (h2:d.natAbs < 2 ^ B):Nb B (Rat.divInt n d):=by
  have g:=amj (n:=n) h
  refine ⟨?_,?_⟩
  · rw [alM h]
    have dv:gcI n d ∣ n:=by
      show ((Nat.gcd n.natAbs d.natAbs:Nat):Int) ∣ n
      exact Int.gcd_dvd_left n d
    rw [Int.natAbs_ediv_of_dvd dv]
    exact Nat.lt_of_le_of_lt (Nat.div_le_self _ _) h1
  · have e:=alN (n:=n) h
    have:(Rat.divInt n d).den<=d.natAbs:=by
      have l:d / gcI n d<=d:=Int.ediv_le_self _ (by omega)
      omega
    exact Nat.lt_of_le_of_lt this h2
theorem alI {p q:Rat} {B C:Nat} (hp:Nb B p) (hq:Nb C q):Nb (B + C + 1) (p + q):=by
  rw [<- ahZ]
  have e:2 ^ (B + C + 1)=2 ^ B * 2 ^ C + 2 ^ B * 2 ^ C:=by rw [Nat.pow_succ,Nat.pow_add];omega
  refine apQ (Int.mul_pos (den_pos p) (den_pos q)) ?_ ?_
  · have a1:(p.num * (q.den:Int)).natAbs < 2 ^ B * 2 ^ C:=by rw [Int.natAbs_mul];exact Nat.mul_lt_mul'' hp.n (by simpa using hq.d)
    have a2:(q.num * (p.den:Int)).natAbs < 2 ^ B * 2 ^ C:=by rw [Int.natAbs_mul,Nat.mul_comm];exact Nat.mul_lt_mul'' (by simpa using hp.d) hq.n
    rw [e]
    exact Nat.lt_of_le_of_lt (Int.natAbs_add_le _ _) (by omega)
  · have a1:((p.den:Int) * (q.den:Int)).natAbs < 2 ^ B * 2 ^ C:=by rw [Int.natAbs_mul];exact Nat.mul_lt_mul'' (by simpa using hp.d) (by simpa using hq.d)
    rw [e];omega
def kindD (d:D):Bool:=(tyD d).isSome
def wholeD:D->Bool
  | .int _=>true
  | _=>false
def numD (lo hi:Int):D->Bool
  | .int i=>decide (lo<=i) && decide (i<=hi)
  | _=>false
def ratioD:D->Bool
  | .tup [.int a,.int b]=>decide (1<=b) && decide (gcI a b=1)
  | _=>false
theorem ae7 {ds:List D} (h:ds.length≠2):ratioD (.tup ds)=false:=by
  unfold ratioD
  split
  · rename_i e;cases e;exact absurd rfl h
  · rfl
def pairK:D->Prop
  | .tup [a,b]=>kindD a=true/\kindD b=true
  | .kt _=>False
  | _=>True
def ratOf:D->Option Rat
  | .int i=>some (i:Rat)
  | .tup [.int a,.int b]=>if 1<=b/\gcI a b=1 then some (Rat.divInt a b) else none
  | _=>none
theorem alz (q:Rat):ratioD (rD q)=true:=by
  have h:=q.reduced
  have h0:=den_pos q
  show (decide ((1:Int)<=q.den) && decide (gcI q.num q.den=1))=true
  have e:gcI q.num q.den=1:=by
    unfold gcI
    have:Nat.gcd q.num.natAbs (q.den:Int).natAbs=1:=by simpa using h
    rw [this];rfl
  rw [e]
  have:(1:Int)<=q.den:=by omega
  simp [this]
theorem akh (q:Rat):ratOf (rD q)=some q:=by
  have h:=alz q
  have h2:(decide ((1:Int)<=q.den) && decide (gcI q.num q.den=1))=true:=h
  rw [Bool.and_eq_true,decide_eq_true_eq,decide_eq_true_eq] at h2
  show (if 1<=(q.den:Int)/\gcI q.num q.den=1 then some (Rat.divInt q.num q.den) else none)=some q
  rw [if_pos h2,af4]
theorem apK {a b:Int} (h1:1<=b) (h2:gcI a b=1):rD (Rat.divInt a b)=rt a b:=by
  rw [alA (by omega),h2,Int.ediv_one,Int.ediv_one]
theorem ale (a b:Int):SeqAt.shaped (.tuple [.int a,.int b])=true:=by simp [SeqAt.shaped,PyData.canLay0,PyData.canLayAll0,PyData.depth,PyData.depthAll]
theorem aoW {n:Bool} {p q:Rat} {Q:DV->Prop} (h:Q (.d (.bl (if n then !decide (p=q) else decide (p=q))))):eqR n (.d (rD p)) (.d (rD q)) Q:=by
  refine l_eqD (d:=rD p) (e:=rD q) (p:=.tuple [.int p.num,.int p.den]) (p':=.tuple [.int q.num,.int q.den]) rfl rfl rfl rfl (ale _ _) (ale _ _) (.inr (.inl ⟨_,rfl⟩)) ?_
  have e:PyData.eqv (.tuple [.int p.num,.int p.den]) (.tuple [.int q.num,.int q.den])=decide (p=q):=by
    simp only [PyData.eqv,PyData.eqvAll,Bool.and_true]
    rw [Bool.eq_iff_iff]
    simp only [Bool.and_eq_true,beq_iff_eq,decide_eq_true_eq]
    constructor
    · rintro ⟨h1,h2⟩
      exact Rat.ext h1 (by exact_mod_cast h2)
    · rintro rfl;exact ⟨rfl,rfl⟩
  rw [e];exact h
theorem akA (f:D->D):∀ (n:Nat) (lo:Int),(intsFrom lo n).map f=(List.range n).map fun (i:Nat)=>f (.int (lo + (i:Int)))
  | 0,_=>rfl
  | n + 1,lo=>by
    show f (.int lo)::(intsFrom (lo + 1) n).map f=_
    rw [akA f n (lo + 1),List.range_succ_eq_map,List.map_cons,List.map_map]
    congr 1
    · simp
    · apply List.map_congr_left
      intro i _
      show f (.int (lo + 1 + (i:Int)))=f (.int (lo + ((i + 1:Nat):Int)))
      congr 2
      omega
theorem adw {d:D}:∀ {n:Nat} {lo:Int},d∈intsFrom lo n->∃ i:Nat,i < n/\d=.int (lo + (i:Int))
  | 0,_,h=>by cases h
  | n + 1,lo,h=>by
    rcases List.mem_cons.mp (show d∈D.int lo::intsFrom (lo + 1) n from h) with e | e
    · exact ⟨0,by omega,by rw [e];simp⟩
    · obtain ⟨i,h1,h2⟩:=adw e
      exact ⟨i + 1,by omega,by rw [h2];congr 1;omega⟩
theorem ajr {α:Type} {f:α->D} {xs:List α} {i:Nat} {x:α} (h:xs[i]?=some x):atI (xs.map f) (i:Int)=some (f x):=by
  have hi:i < xs.length:=(List.getElem?_eq_some_iff.mp h).1
  unfold atI ixN
  rw [if_pos (by omega),if_pos (by rw [List.length_map];omega),Int.toNat_natCast]
  show (List.map f xs)[i]?=_
  rw [List.getElem?_map,h]
  rfl
section
variable {prog:Program} {w:World} {A:Around} {E:Value->Shared->Prop} {s:Shared} {K:PySem.W.Frag} {C x t:Addr} {name:Str} {v:Value} {B:String} {bmB:List Value} {Q:Unit->Shared->Prop}
structure StK (K:PySem.W.Frag) (C:Addr) (bmB:List Value):Prop where
  sa:PySem.W.findIn K (.ref C) "__setattr__"=some (some (.builtin "object.__setattr__"))
  ov:PySem.W.excOver K C bmB=true
  hd:PySem.W.hasDictIn K C=true
theorem alg (SF:PySem.StoreFacts B bmB "object.__setattr__" "object") (X:K.In s.heap) (T:StK K C bmB) (hx:s.heap.get? x=some (PySem.W.excObj C t none .none)) (ht:PySem.W.takerIn K C name=some none)
    (h:∀ h' tk dx,(∀ b o,b≠x->s.heap.get? b=some o->h'.get? b=some o)->s.heap.get? dx=none->h'.get? x=some (PySem.W.excObj C t (some dx) .none)->h'.Ns1 dx (fun y=>if y=name then some v else none)->Q () { s with heap:=h',toks:=tk }) :
    wpAny (model prog w) A (setAttr (.ref x) name v) Q E s:=by
  have I:PySem.W.InstAt s.heap x (PySem.W.excObj C t none .none) C none:=⟨hx,rfl,rfl,trivial⟩
  refine PySem.W.set_plain X I T.sa (PySem.W.osa_openX (s:={ s with toks:=s.toks + 1 }) SF X I T.ov ht fun b=>?_)
  obtain ⟨cd,hc,hd⟩:=PySem.W.any_some T.hd
  refine wpAny_bind (wpAny_pure (wpAny_bind (PySem.W.instanceDict_exc (s:={ s with toks:=s.toks + 1 }) hx (PySem.W.looks_clsIn X hc) hd ?_)))
  show wpAny _ _ (Builtin.ObjectAttr.storeInDict s.heap.objs.size _ name v) _ _ _
  have lt:=Heap.lt_size hx
  refine HandSPX.store_in_new ⟨_,#[],_,(Heap.get?_update_ne _ _ _ _ (Nat.ne_of_gt lt)).trans (Heap.get?_push_at rfl rfl),rfl,fun e he=>absurd he (by simp),fun _=>rfl⟩ fun h' tk hn hs=>?_
  refine h h' tk s.heap.objs.size (fun b o hb ho=>?_) (Heap.get?_none_of_le (Nat.le_refl _)) ?_ hn
  · exact (hs.2 b (Nat.ne_of_lt (Heap.lt_size ho))).trans ((Heap.get?_update_ne _ _ _ _ hb).trans (Heap.get?_push_of_some _ ho))
  · refine (hs.2 x (Nat.ne_of_lt lt)).trans ?_
    exact Heap.get?_update_self _ (Heap.get?_push_of_some _ hx) rfl
theorem amU {dx:Addr} {m0:Str->Option Value} {nl:List Str} (SF:PySem.StoreFacts B bmB "object.__setattr__" "object") (X:K.In s.heap) (T:StK K C bmB) (hx:s.heap.get? x=some (PySem.W.excObj C t (some dx) .none)) (ht:PySem.W.takerIn K C name=some none)
    (hn:s.heap.Ns1 dx m0) (hw:Within m0 nl) (hz:nl.length<=1000)
    (h:∀ h' tk,(∀ b o,b≠dx->s.heap.get? b=some o->h'.get? b=some o)->h'.Ns1 dx (fun y=>if y=name then some v else m0 y)->Q () { s with heap:=h',toks:=tk }) :
    wpAny (model prog w) A (setAttr (.ref x) name v) Q E s:=by
  obtain ⟨oD,_,_,hoD,_,_⟩:=hn.count hw
  have I:PySem.W.InstAt s.heap x (PySem.W.excObj C t (some dx) .none) C (some oD):=⟨hx,rfl,rfl,hoD⟩
  refine PySem.W.set_plain X I T.sa (PySem.W.osa_openX (s:={ s with toks:=s.toks + 1 }) SF X I T.ov ht fun b=>?_)
  obtain ⟨cd,hc,hd⟩:=PySem.W.any_some T.hd
  refine wpAny_bind (wpAny_pure (wpAny_bind (wpAny_bind (wpAny_loadPart hx (wpAny_bind (PySem.W.Looks.here (s:={ s with toks:=s.toks + 1 }) (PySem.W.looks_clsIn X hc) ?_))))))
  rw [hd]
  refine wpAny_pure (a:=some dx) ?_
  exact PySem.OEX.store_in_old hn hw hz fun h' tk hn' hs=>h h' tk (fun b o hb ho=>(hs.2 b hb).trans ho) hn'
end
inductive Sts (self:Str):List Stmt->List (Str × (Str ⊕ Str))->Prop
  | nil:Sts self [] []
  | con {f m:Str} {j:Nat} {p1 p2 p3 pos:Pos} {rest:List Stmt} {fs:List (Str × (Str ⊕ Str))} (hs:∀ env,swapsWith (.Constant (.str m) j p3) (some (.Attribute (.Name self p1) f p2)) pos.line env=pure false) (r:Sts self rest fs) :
      Sts self (.Assign [.Attribute (.Name self p1) f p2] (.Constant (.str m) j p3) pos::rest) ((f,.inl m)::fs)
  | var {f x:Str} {p1 p2 p3 pos:Pos} {rest:List Stmt} {fs:List (Str × (Str ⊕ Str))} (hs:∀ env,swapsWith (.Name x p3) (some (.Attribute (.Name self p1) f p2)) pos.line env=pure false) (hd:(x == ("__debug__":Str))=false) (r:Sts self rest fs) :
      Sts self (.Assign [.Attribute (.Name self p1) f p2] (.Name x p3) pos::rest) ((f,.inr x)::fs)
def fldV (val:Str->V):List (Str × (Str ⊕ Str))->List (Str × V)->List (Str × V)
  | [],acc=>acc
  | (f,.inl m)::r,acc=>fldV val r ((f,.str m)::acc)
  | (f,.inr x)::r,acc=>fldV val r ((f,val x)::acc)
structure ExAt (h1:Heap) (C e t:Addr) (fs:List (Str × V)) (s:Shared):Prop where
  keep:∀ b o,b≠e->h1.get? b=some o->s.heap.get? b=some o
  at_:(fs=[]/\s.heap.get? e=some (PySem.W.excObj C t none .none))\/∃ dx mA,h1.get? dx=none/\s.heap.get? e=some (PySem.W.excObj C t (some dx) .none)/\s.heap.Ns1 dx mA/\∀ f,RelO (fs.lookup f) (mA f)
section
variable {prog:Program} {w:World} {A:Around} {E:Value->Shared->Prop} {K:PySem.W.Frag} {C e t L:Addr} {B:String} {bmB:List Value} {h1:Heap} {env:Env} {m:Str->Option Value} {self:Str} {val:Str->V}
theorem alu {f:Str} {u:Value} {y:V} {fs:List (Str × V)} {s:Shared} {Q:Unit->Shared->Prop} (SF:PySem.StoreFacts B bmB "object.__setattr__" "object") (T:StK K C bmB) (X:K.In s.heap) (a:ExAt h1 C e t fs s) (e1:∃ o,h1.get? e=some o) (hl:fs.length<=900) (ht:PySem.W.takerIn K C f=some none) (ry:RelV y u)
    (h:∀ h' tk,ExAt h1 C e t ((f,y)::fs) { s with heap:=h',toks:=tk }->Q () { s with heap:=h',toks:=tk }):wpAny (model prog w) A (setAttr (.ref e) f u) Q E s:=by
  rcases a.at_ with ⟨rfl,hx⟩ | ⟨dx,mA,nd,hx,hn,rel⟩
  · refine alg SF X T hx ht fun h' tk dx k nd hx' hn=>h h' tk ⟨fun b o hb ho=>k b o hb (a.keep b o hb ho),.inr ⟨dx,_,?_,hx',hn,relO_put (fs:=[]) ry fun g=>True.intro⟩⟩
    cases z:h1.get? dx with
    | none=>rfl
    | some o=>
      by_cases q:dx=e
      · subst q;rw [hx] at nd;cases nd
      · rw [a.keep dx o q z] at nd;cases nd
  · refine amU SF X T hx ht hn (within_of rel) (by rw [List.length_map];omega) fun h' tk k hn'=>h h' tk ⟨fun b o hb ho=>k b o (fun z=>?_) (a.keep b o hb ho),.inr ⟨dx,_,nd,k e _ (fun z=>?_) hx,hn',relO_put ry rel⟩⟩
    · rw [z,nd] at ho;cases ho
    · obtain ⟨o,ho⟩:=e1
      rw [z,nd] at ho;cases ho
theorem aoq (SF:PySem.StoreFacts B bmB "object.__setattr__" "object") (T:StK K C bmB) (hk:env.scope.kind=.function) (hn:h1.Ns env.locals m) (nL:env.locals≠e) (Kh:K.In h1) (Ke:K.lookup e=none) (e1:∃ o,h1.get? e=some o) (hself:env.kindOf self=some .local) (ms:m self=some (.ref e)) (hsd:(self == ("__debug__":Str))=false) :
    ∀ {body:List Stmt} {fs:List (Str × (Str ⊕ Str))},Sts self body fs->(∀ f∈fs,PySem.W.takerIn K C f.1=some none)->(∀ f∈fs,∀ x,f.2=.inr x->env.kindOf x=some .local/\∃ u,m x=some u/\RelV (val x) u)->
      ∀ {acc:List (Str × V)} {s:Shared} {Q:Flow->Shared->Prop},acc.length + fs.length<=900->ExAt h1 C e t acc s->(∀ h' tk,ExAt h1 C e t (fldV val fs acc) { s with heap:=h',toks:=tk }->Q .next { s with heap:=h',toks:=tk })->
      wpAny (model prog w) A (execs body env) Q E s:=by
  have nsK:∀ {s:Shared} {acc:List (Str × V)},ExAt h1 C e t acc s->s.heap.Ns env.locals m:=fun {s acc} a=>by
    obtain ⟨o,es,ep,e2,r⟩:=hn
    exact ⟨o,es,ep,a.keep _ _ nL e2,r⟩
  have inK:∀ {s:Shared} {acc:List (Str × V)},ExAt h1 C e t acc s->K.In s.heap:=fun {s acc} a b o q=>a.keep b o (fun z=>by subst z;rw [Ke] at q;cases q) (Kh b o q)
  intro body fs st
  induction st with
  | nil=>intro _ _ acc s Q _ a h;exact wpAny_execs_nil (h s.heap s.toks a)
  | @con f m' j p1 p2 p3 pos rest fs hs r ih=>
    intro h1' h2' acc s Q hl a h
    refine wpAny_execs_cons (plainObj_wpAny_Assign_Attribute (Calls.Constant_str ?_) (hs env))
    have a1:ExAt h1 C e t acc { s with toks:=s.toks + 1 }:=⟨a.keep,a.at_⟩
    refine wpAny_Name (wpAny_loadName_local hk hself (nsK a1) ms ?_) hsd
    refine alu SF T (inK a1) a1 e1 (by rw [List.length_cons] at hl;omega) (h1' _ (List.mem_cons_self ..)) (y:=.str m') ⟨_,rfl⟩ fun h' tk a2=>?_
    exact ih (fun f hf=>h1' f (List.mem_cons_of_mem _ hf)) (fun f hf=>h2' f (List.mem_cons_of_mem _ hf)) (by rw [List.length_cons] at hl ⊢;omega) a2 fun h'' tk' a3=>h h'' tk' a3
  | @var f x p1 p2 p3 pos rest fs hs hd r ih=>
    intro h1' h2' acc s Q hl a h
    obtain ⟨kx,u,mx,ru⟩:=h2' _ (List.mem_cons_self ..) x rfl
    refine wpAny_execs_cons (plainObj_wpAny_Assign_Attribute (wpAny_Name (wpAny_loadName_local hk kx (nsK a) mx ?_) hd) (hs env))
    refine wpAny_Name (wpAny_loadName_local hk hself (nsK a) ms ?_) hsd
    refine alu SF T (inK a) a e1 (by rw [List.length_cons] at hl;omega) (h1' _ (List.mem_cons_self ..)) ru fun h' tk a2=>?_
    exact ih (fun f hf=>h1' f (List.mem_cons_of_mem _ hf)) (fun f hf=>h2' f (List.mem_cons_of_mem _ hf)) (by rw [List.length_cons] at hl ⊢;omega) a2 fun h'' tk' a3=>h h'' tk' a3
end
structure ExBase (B newId initId:String) (bmB:List Value):Prop where
  fb:PySem.ExcBaseFacts B newId initId bmB
  kf:PySem.W.KxsFacts B initId
  sf:PySem.StoreFacts B bmB "object.__setattr__" "object"
structure ExK (K:PySem.W.Frag) (file:Str) (C fI:Addr) (params:Arguments) (body:List Stmt) (scope:Scope) (B newId initId:String) (bmB:List Value):Prop where
  st:StK K C bmB
  q:PySem.W.excInitIn K C bmB newId=true
  hi:PySem.W.findIn K (.ref C) "__init__"=some (some (.ref fI))
  ff:PySem.W.typeIn K (.ref fI)=some (.type "function")
  sup:PySem.W.ks_superIn K C C "__init__"=some (some (.builtin initId))
  sub:PySem.W.subIn K (.ref C) (.type B)=some true
  own:PySem.W.mroIn K C (.ref C)=some true
  exC:PySem.W.subIn K (.ref C) (.type "BaseException")=some true
  tyC:PySem.W.typeIn K (.ref C)=some (.type "type")
  kC:PySem.W.keepIn K (.ref C)=true
  op:PySem.W.nsIn K cStatics "thirdparty.any"=some none
  fn:∃ (oc:Value) (od:Option Addr) (osl:Array (Option Value)) (name qual:Str) (doc pm:Value) (an:Option Addr) (cda cc:Addr) (ct:Value) (vs:Array Value) (tf:Tok) (ccl cl:Value) (cdd cld:Option Addr) (ccs csl:Array (Option Value)),
    K.lookup fI=some ⟨oc,od,.func (PySem.W.ksFn name qual params body scope .none .none doc pm an (.ref cda) ct cc),osl⟩/\PySem.W.codeIn K (.ref cda) qual=true/\K.lookup cda=some ⟨ccl,cdd,.fields vs,ccs⟩/\vs[2]?=some (.str file tf)/\K.lookup cc=some ⟨cl,cld,.cell (some (.ref C)),csl⟩
structure ExT (body:List Stmt) (params:Arguments) (scope:Scope) (sf:Str) (ps:List Str) (fs:List (Str × (Str ⊕ Str))):Prop where
  shape:∃ p0 p1 p2 p3 p4 p5 msg j rest,body=.Expr (.Call (.Attribute (.Call (.Name "super" p0) [] [] p1) "__init__" p2) [.Constant (.str msg) j p3] [] p4) p5::rest/\Sts sf rest fs/\
    (∀ env:Env,∃ pl:Sem Bool,eval (.Call (.Attribute (.Call (.Name "super" p0) [] [] p1) "__init__" p2) [.Constant (.str msg) j p3] [] p4) env=(do
      let ov <- attributeBase (.Call (.Name "super" p0) [] [] p1) "__init__" env (eval (.Call (.Name "super" p0) [] [] p1) env)
      standAt p2.atName
      let (f,first) <- holding [ov] (getMethod ov "__init__" pl)
      callWith p4 f first (backTo p4 (starEach [.Constant (.str msg) j p3] env)) []))/\
    (∀ env:Env,env.scope.kind=.function->interactive env=false)/\∀ env:Env,swapsWith (.Call (.Attribute (.Call (.Name "super" p0) [] [] p1) "__init__" p2) [.Constant (.str msg) j p3] [] p4) none p5.line env=pure false
  head:∃ ar,(params.posonlyargs++params.args).head?=some ar/\ar.arg=sf
  ks:scope.names.lookup ("super":Str)=some .globalImplicit
  kc:scope.names.lookup ("__class__":Str)=some .free
  loc:∀ x∈sf::ps,scope.names.lookup x=some .local
  kind:scope.kind=.function
  co:scope.isCoroutine=false
  gen:scope.isGenerator=false
  cell:∀ x∈scope.names,x.2≠.cell
  flds:∀ f∈fs,∀ x,f.2=.inr x->x∈ps
  nod:(sf::ps).Nodup
  sd:(sf == ("__debug__":Str))=false
  len:fs.length<=900
section
variable {prog:Program} {w:World} {A:Around} {R:Result->Shared->Prop} {s:Shared} {K:PySem.W.Frag} {mg mb:Str->Option Value} {file:Str} {C fI e t:Addr} {params:Arguments} {body:List Stmt} {scope:Scope} {B newId initId:String} {bmB:List Value} {self:Str} {ps:List Str} {fs:List (Str × (Str ⊕ Str))} {us:List Value} {vs:List V} {val:Str->V}
theorem ahG:∀ {ps:List Str} {us:List Value} {vs:List V} {x:Str},Vals vs us->vs.length=ps.length->ps.Nodup->x∈ps->∃ u v,(ps.zip us).reverse.lookup x=some u/\(ps.zip vs).lookup x=some v/\RelV v u
  | [],_,_,_,_,_,_,h=>by cases h
  | p::ps,_,_,x,.nil,hl,_,_=>by cases hl
  | p::ps,u::us,v::vs,x,.cons r rs,hl,hn,hx=>by
    rw [List.zip_cons_cons,List.zip_cons_cons,List.reverse_cons,List.lookup_append,List.lookup_cons]
    obtain ⟨np,hn'⟩:=List.nodup_cons.mp hn
    have out:∀ (y:Str),y∉ps->(ps.zip us).reverse.lookup y=none:=fun y hy=>by
      rw [List.lookup_eq_none_iff]
      intro q hq
      have:=(List.of_mem_zip (List.mem_reverse.mp hq)).1
      rw [bne_iff_ne]
      intro z
      exact hy (z ▸ this)
    rcases List.mem_cons.mp hx with rfl | hx
    · rw [out _ np]
      refine ⟨u,v,?_,?_,r⟩
      · simp [List.lookup]
      · simp
    · have ne:(x == p)=false:=by rw [beq_eq_false_iff_ne];intro z;exact np (z ▸ hx)
      obtain ⟨u',v',h1,h2,h3⟩:=ahG rs (by simpa using hl) hn' hx
      refine ⟨u',v',?_,?_,h3⟩
      · rw [h1];rfl
      · rw [List.lookup_cons,ne];exact h2
theorem am3 (XB:ExBase B newId initId bmB) (EK:ExK K file C fI params body scope B newId initId bmB) (ET:ExT body params scope self ps fs) (X:K.In s.heap) (G:s.heap.Ns mainGlobals mg) (hsu:mg ("super":Str)=none) (Bn:s.heap.Ns builtinsNs mb) (hbn:mb ("super":Str)=some (.type "super")) (lim:s.heap.NoLimit)
    (hfile:((prog.main.file:Str) == file)=true) (htop:(prog.main.scope.names.lookup ("super":Str)).isSome=false) (hroom:A.depth < recursionLimit) (he:s.heap.get? e=some (PySem.W.excObj C t none .none)) (Ke:K.lookup e=none)
    (rv:Vals vs us) (hl:vs.length=ps.length) (hbind:∀ (name qual:Str) (doc pm:Value) (an:Option Addr) (cda ct:Value) (cc:Addr),bindArgs (PySem.W.ksFn name qual params body scope .none .none doc pm an cda ct cc) ⟨.ref e::us,[]⟩=pure ((self::ps).zip (.ref e::us)))
    (ht:∀ f∈fs,PySem.W.takerIn K C f.1=some none)
    (h:∀ h' tk t',ExAt s.heap C e t' (fldV (fun x=>((ps.zip vs).lookup x).getD .non) fs []) { s with heap:=h',toks:=tk }->R (.ok (.ret .none)) { s with heap:=h',toks:=tk }) :
    codeAny (model prog w) A (.call (.ref fI) ⟨.ref e::us,[]⟩) R s:=by
  obtain ⟨oc,od,osl,name,qual,doc,pm,an,cda,cc,ct,cvs,tf,ccl,cl,cdd,cld,ccs,csl,lk,hcd,lkc,hv2,lcc⟩:=EK.fn
  obtain ⟨p0,p1,p2,p3,p4,p5,msg,j,rest,hbd,hst,hev,hint,hsw⟩:=ET.shape
  obtain ⟨ar,har,hself⟩:=ET.head
  have hlen:us.length=ps.length:=by rw [<- rv.length];exact hl
  have hlcl:∀ x∈(self::ps).zip (Value.ref e::us),scope.names.lookup x.1=some .local:=fun x hx=>ET.loc x.1 (List.of_mem_zip hx).1
  refine ks_codeAny_call_defAt (fd:=PySem.W.ksFn name qual params body scope .none .none doc pm an (.ref cda) ct cc) (body:=body) (binds:=(self::ps).zip (Value.ref e::us)) hroom (X _ _ lk) rfl lim (PySem.W.codeRec_of X hcd) rfl (BindsTo.of_eq (hbind _ _ _ _ _ _ _ _)) ET.cell hlcl (fun h1 hns k1=>?_) ET.co ET.gen ET.kind
  have L:Addr:=s.heap.objs.size
  generalize henv:callEnv (PySem.W.ksFn name qual params body scope .none .none doc pm an (.ref cda) ct cc) s.heap.objs.size fI=env at *
  have eloc:env.locals=s.heap.objs.size:=by rw [<- henv];rfl
  have esc:env.scope=scope:=by rw [<- henv];rfl
  have ekd:∀ y,env.kindOf y=scope.names.lookup y:=fun y=>by rw [<- henv];rfl
  have ekf:env.scope.kind=.function:=by rw [esc];exact ET.kind
  have X1:K.In h1:=fun b o q=>k1 b o (X b o q)
  have he1:=k1 _ _ he
  have nL:env.locals≠e:=by rw [eloc];exact Nat.ne_of_gt (Heap.lt_size he)
  rw [<- eloc] at hns
  have all:=rv
  have key:∀ x∈ps,∃ u v,((self::ps).zip (Value.ref e::us)).reverse.lookup x=some u/\(ps.zip vs).lookup x=some v/\RelV v u:=fun x hx=>by
    obtain ⟨u,v,z1,z2,z3⟩:=ahG rv hl (List.nodup_cons.mp ET.nod).2 hx
    refine ⟨u,v,?_,z2,z3⟩
    rw [List.zip_cons_cons,List.reverse_cons,List.lookup_append,z1];rfl
  have kself:((self::ps).zip (Value.ref e::us)).reverse.lookup self=some (.ref e):=by
    rw [List.zip_cons_cons,List.reverse_cons,List.lookup_append]
    have:(ps.zip us).reverse.lookup self=none:=by
      rw [List.lookup_eq_none_iff]
      intro q hq
      have:=(List.of_mem_zip (List.mem_reverse.mp hq)).1
      rw [bne_iff_ne]
      intro z
      exact (List.nodup_cons.mp ET.nod).1 (z ▸ this)
    rw [this];simp [List.lookup]
  rw [hbd]
  obtain ⟨pl,hpl⟩:=hev env
  refine ks_wpAt_execs_cons (ks_wpAt_Expr_any (ks_wpAt_MethodCall ?_ hpl) (hint env ekf) (hsw env))
  refine ks_wpAt_super_base (ar:=ar) ((ekd _).trans ET.ks) ((ekd _).trans ET.kc) (by decide) (f:=fI) (by rw [<- henv];rfl) (X1 _ _ lk) rfl har (cc:=cda) (by rw [<- henv];rfl) (X1 _ _ lkc) rfl hv2 hfile htop ?_
  obtain ⟨cd,hcdC,hdC⟩:=PySem.W.any_some EK.st.hd
  obtain ⟨oD,hD1,hD2⟩:∃ oD,h1.get? C=some oD/\oD.data=.cls cd:=by
    unfold PySem.W.clsIn at hcdC
    split at hcdC
    · rename_i c d cd' sl ho
      cases hcdC
      exact ⟨_,X1 _ _ ho,rfl⟩
    · cases hcdC
  have G1:h1.Ns mainGlobals mg:=by obtain ⟨o,es,ep,e2,r⟩:=G;exact ⟨o,es,ep,k1 _ _ e2,r⟩
  have B1:h1.Ns builtinsNs mb:=by obtain ⟨o,es,ep,e2,r⟩:=Bn;exact ⟨o,es,ep,k1 _ _ e2,r⟩
  have I1:PySem.W.InstAt h1 e (PySem.W.excObj C t none .none) C none:=⟨he1,rfl,rfl,trivial⟩
  have hneC:e≠C:=PySem.W.ks_ne X1 I1 hcdC
  refine PySem.W.ks_loadName_global ekf ((ekd _).trans ET.ks) (Calls.loadGlobal_builtin (by rw [<- henv];exact G1) hsu (by rw [<- henv];exact B1) hbn ⟨rfl,?_⟩)
  refine wpAny_loadName_free ekf ((ekd _).trans ET.kc) (c:=cc) (by rw [<- henv];rfl) ⟨_,X1 _ _ lcc,rfl⟩ ?_
  rw [hself]
  refine wpAny_loadName_local ekf ((ekd _).trans (ET.loc _ (List.mem_cons_self ..))) hns kself ?_
  refine ks_wpAny_isType_cls hD1 hD2 ⟨rfl,?_⟩
  refine ks_wpAny_call_super hD1 hD2 he1 rfl (fun c z=>by cases z) (PySem.W.looks_mroIn X1 EK.own) (fun h2 so2 k2=>?_)
  have X2:K.In h2:=fun b o q=>k2 b o (X1 b o q)
  have he2:=k2 _ _ he1
  have I2:PySem.W.InstAt h2 e (PySem.W.excObj C t none .none) C none:=⟨he2,rfl,rfl,trivial⟩
  have hsup:=EK.sup
  unfold PySem.W.ks_superIn at hsup
  rw [hcdC] at hsup
  refine PySem.W.kxs_getMethod XB.kf so2 (PySem.W.looks_opaque X2 EK.op) (l₀:=cd.mro) (fun A Q E s k q=>wpAny_bind ((PySem.W.looks_clsIn X2 hcdC) A _ E s k (wpAny_pure q))) rfl X2 hsup (I2.type.andThen (PySem.W.looks_subIn X2 EK.sub)) hneC (by decide) ?_
  generalize hu:h2.objs.size=u
  have hu3:(h2.push (PySem.W.kxs_mw initId e)).get? u=some (PySem.W.kxs_mw initId e):=by rw [<- hu];exact Heap.get?_push_at rfl rfl
  have k3:∀ b o,h2.get? b=some o->(h2.push (PySem.W.kxs_mw initId e)).get? b=some o:=fun b o q=>Heap.get?_push_of_some _ q
  refine PySem.W.kxs_callWith (i:=initId) (x:=e) rfl (Calls.evalArgs_plain (Calls.spliced_cons (Calls.Constant_str (k:=j) (pos:=p3) (Calls.spliced_nil ⟨hu3,?_⟩))))
  obtain ⟨nm,N',qn,bs,bm,hdct,sn,sub,ab,col,dd,k0,k1',k2',k3',k5,hC,hT⟩:=PySem.W.excInit_of (X:=(fun b o q=>k3 b o (X2 b o q):K.In (h2.push (PySem.W.kxs_mw initId e)))) EK.q
  refine wpAny_call (codeAny_of_tree ?_)
  show wpAny _ _ (callAny (.ref u) _) _ _ _
  simp only [callAny]
  refine wpAny_bind (wpAny_load hu3 ?_)
  simp only [PySem.W.kxs_mw,show (Value.type "method-wrapper" == Value.type "method" || Value.type "method-wrapper" == Value.type "builtin_function_or_method" || Value.type "method-wrapper" == Value.type "method-wrapper")=true by decide,if_true]
  refine PySem.W.KFB.if_so (by decide) ?_
  refine wpAny_bind (PySem.W.check_bound_init XB.fb.toExcCallFacts hC (k3 _ _ he2) rfl ?_)
  refine wpAny_bind (wpAny_pure (wpAny_pure ?_))
  refine ⟨plainId_quiet XB.fb.init.plain _,codeAny_builtin XB.fb.initEntry ?_⟩
  refine PySem.W.exc_init_tree (cls:=.ref C) (t0:=t) (dv:=none) (c2:=.none) (c3:=.none) (b4:=.bool false) (k3 _ _ he2) (by show 1<=sizeLine;decide) fun h4 k4 e4 t4=>?_
  have kk:∀ b o,b≠e->h1.get? b=some o->h4.get? b=some o:=fun b o hb q=>k4 b o hb (k3 b o (k2 b o q))
  show PySem.wpAt _ _ _ (execs rest env) _ _ _
  refine PySem.wpAt_of_wpAny ?_
  have hst1:∀ (s5:Shared),s5.heap=h4->ExAt h1 C e (h2.push (PySem.W.kxs_mw initId e)).objs.size [] s5:=fun s5 z=>⟨fun b o hb q=>by rw [z];exact kk b o hb q,.inl ⟨rfl,by rw [z];exact e4⟩⟩
  refine aoq (h1:=h1) (K:=K) (C:=C) (e:=e) (m:=fun x=>((self::ps).zip (Value.ref e::us)).reverse.lookup x) (val:=fun x=>((ps.zip vs).lookup x).getD .non) XB.sf EK.st ekf hns nL X1 Ke ⟨_,he1⟩ ((ekd _).trans (ET.loc _ (List.mem_cons_self ..))) kself ET.sd hst ht (fun f hf x hx=>?_) (by rw [List.length_nil,Nat.zero_add];exact ET.len) (hst1 _ rfl) (fun h5 tk a=>?_)
  · have hxp:=ET.flds f hf x hx
    obtain ⟨u',v',z1,z2,z3⟩:=key x hxp
    exact ⟨(ekd _).trans (ET.loc _ (List.mem_cons_of_mem _ hxp)),u',z1,by rw [z2];exact z3⟩
  · refine h h5 tk (h2.push (PySem.W.kxs_mw initId e)).objs.size ⟨fun b o hb q=>a.keep b o hb (k1 b o q),?_⟩
    rcases a.at_ with z | ⟨dx,mA,z1,z2⟩
    · exact .inl z
    · refine .inr ⟨dx,mA,?_,z2⟩
      cases q:s.heap.get? dx with
      | none=>rfl
      | some o=>rw [k1 dx o q] at z1;cases z1
end
section
variable {X:Cx} {file:Str} {C fI:Addr} {params:Arguments} {body:List Stmt} {scope:Scope} {B newId initId:String} {bmB:List Value} {self:Str} {ps:List Str} {fs:List (Str × (Str ⊕ Str))} {x:Str} {p pos:Pos} {e:Expr} {es:List Expr} {ta:TA}
def xdV (ps:List Str) (fs:List (Str × (Str ⊕ Str))) (vs:List V):List (Str × V):=fldV (fun x=>((ps.zip vs).lookup x).getD .non) fs []
theorem apV {pins:List (Addr × Obj)} {σ:L2.St} {H1:Hp} {s1:Shared} {us:List Value} {vs:List V} {Q:XK} (XB:ExBase B newId initId bmB) (EK:ExK X.K file C fI params body scope B newId initId bmB) (ET:ExT body params scope self ps fs)
    (hfile:((X.prog.main.file:Str) == file)=true) (htop:(X.prog.main.scope.names.lookup ("super":Str)).isSome=false) (hsu:X.mg ("super":Str)=none)
    (hbind:∀ (e:Addr) (us:List Value),us.length=ps.length->∀ (name qual:Str) (doc pm:Value) (an:Option Addr) (cda ct:Value) (cc:Addr),bindArgs (PySem.W.ksFn name qual params body scope .none .none doc pm an cda ct cc) ⟨.ref e::us,[]⟩=pure ((self::ps).zip (.ref e::us)))
    (ht:∀ f∈fs,PySem.W.takerIn X.K C f.1=some none) (hne:∀ vs,xdV ps fs vs≠[]) (hr:Room 2 X.A) (I1:Inv X pins σ H1 s1) (rv:Vals vs us) (hl:vs.length=ps.length) (hl2:vs.length<=1000) (q:∀ d,H1 d=none->Q (.ref C) (some d) (upd H1 d (.xd (xdV ps fs vs)))) :
    wpAny (model X.prog X.w) X.A (call (.ref C) us) (L2N.MkP X pins σ Q) X.xe s1:=by
  obtain ⟨nm,N',qn,bs,bm,hdct,sn,sub,ab,col,dd,k0,k1,k2,k3,k5,hC,hT⟩:=PySem.W.excInit_of I1.kIn EK.q
  obtain ⟨hp,g,dr,tk,os⟩:=s1
  have hus:us.length<=sizeLine:=by rw [<- rv.length,sizeLine_eq];omega
  obtain ⟨oI,hoI,hcI⟩:∃ oI,hp.get? fI=some oI/\oI.cls=.type "function":=by
    obtain ⟨o,ho,hc⟩:=Option.map_eq_some_iff.mp (show (X.K.lookup fI).map (·.cls)=some (.type "function") from EK.ff)
    exact ⟨o,I1.kIn _ _ ho,hc⟩
  refine wpAny_call (PySem.HandSPX.call_own XB.fb hT hC (PySem.W.looks_findIn I1.kIn EK.hi) (fun self=>PySem.W.exc_bind hoI hcI self) hus ?_)
  have kk:∀ b o,hp.get? b=some o->((hp.push (PySem.W.kdv_tup us)).push (PySem.HandSPX.excO C hp.objs.size)).get? b=some o:=fun b o e=>Heap.get?_push_of_some _ (Heap.get?_push_of_some _ e)
  have hget:((hp.push (PySem.W.kdv_tup us)).push (PySem.HandSPX.excO C hp.objs.size)).get? (hp.objs.size + 1)=some (PySem.W.excObj C hp.objs.size none .none):=by heap_get
  have lt:∀ {b:Addr} {o:Obj},hp.get? b=some o->b≠hp.objs.size + 1:=fun {b o} z=>Nat.ne_of_lt (Nat.lt_succ_of_lt (Heap.lt_size z))
  have Ke:X.K.lookup (hp.objs.size + 1)=none:=by
    cases z:X.K.lookup (hp.objs.size + 1) with
    | none=>rfl
    | some o=>exact absurd rfl (lt (I1.kIn _ _ z))
  generalize hh2:(hp.push (PySem.W.kdv_tup us)).push (PySem.HandSPX.excO C hp.objs.size)=h2 at *
  have KM:=I1.ok.mod
  obtain ⟨mb,nb,hbb⟩:=KM.blt
  have bk:∀ b o,X.base.get? b=some o->h2.get? b=some o:=fun b o z=>kk b o (I1.bk b o z)
  have nsb:∀ {b:Addr} {m:Str->Option Value},X.base.Ns b m->h2.Ns b m:=fun {b m} ⟨o,es,ep,e2,r⟩=>⟨o,es,ep,bk _ _ e2,r⟩
  have lim:h2.NoLimit:=by obtain ⟨mc,n1,n2⟩:=KM.nolimit;exact ⟨mc,nsb n1,n2⟩
  refine am3 (s:=⟨h2,g,dr,tk,os⟩) (self:=self) (ps:=ps) (fs:=fs) (vs:=vs) (mg:=X.mg) (mb:=mb) XB EK ET (fun b o z=>bk b o (KM.kin b o z)) (nsb KM.glob) hsu (nsb nb) ((hbb _ (by decide)).trans PyProof.Rows.Boot.«super») lim hfile htop (hr.make C us []).depth hget Ke rv hl (hbind _ _ (by rw [<- rv.length];exact hl)) ht fun h' tk' t' a=>?_
  obtain ⟨ak,z | ⟨dx,mA,nd,hx,hn,rel⟩⟩:=a
  · exact absurd z.1 (hne vs)
  refine ⟨rfl,?_⟩
  have nd1:hp.get? dx=none:=by
    cases z:hp.get? dx with
    | none=>rfl
    | some o=>rw [kk dx o z] at nd;cases nd
  have dne:dx≠hp.objs.size + 1:=fun z=>by rw [z,hget] at nd;cases nd
  obtain ⟨G,g1,g2⟩:=restrict h' fun b=>decide (b≠hp.objs.size + 1)
  have gk:∀ b,b≠hp.objs.size + 1->G.get? b=h'.get? b:=fun b hb=>g1 b (decide_eq_true hb)
  have ge:G.get? (hp.objs.size + 1)=none:=g2 _ (by simp)
  have nH:H1 dx=none:=I1.hok.gone nd1
  have J:Inv X pins σ (upd H1 dx (.xd (xdV ps fs vs))) ⟨G,g,dr,tk',os⟩:=
    Inv.laidN (h':=G) (t':=tk') I1 (fun b o z=>by rw [gk b (lt z)];exact ak b o (lt z) (kk b o z)) nd1 nH ⟨mA,hn.at fun o y=>(gk dx dne).trans y,rel⟩
  refine ⟨hp.objs.size + 1,_,_,⟨G,g,dr,tk',os⟩,_,.ref C,some dx,rfl,J,fun b o z=>?_,ge,hx,⟨rfl,rfl,fun vs z=>by cases z;rfl⟩,rfl,rfl,?_,rfl,J.bare,raises_own EK.exC EK.tyC,q dx nH⟩
  · by_cases hb:b=hp.objs.size + 1
    · rw [hb,ge] at z;cases z
    · exact (gk b hb).symm.trans z
  · rw [upd_ne (Ne.symm dne)]
    exact I1.hok.fresh (Nat.le_succ _)
end
section
variable {K:PySem.W.Frag} {G G1:Hp} {so:So} {σ:L2.St} {H H1:Hp} {sl s1:DSt}
theorem Post.alloc {d:Addr} {o:HO} (p:Post K G so σ H sl H1 G1 s1) (n:H1 d=none) (nt:∀ xs,o≠.tup xs:=by intro _ z;cases z):Post K G so σ H sl (upd H1 d o) G1 s1:=by
  have pv:PostV K G1 so H1 .non (upd H1 d o) G1 (.d .non):=⟨Ex.refl G1,p.rep.h.alloc n nt,fun _ _ e _=>Ex.new n _ _ e,fun _ _ g _=>g,.non,fun _ _ e=>(nomatch e),fun _ e=>(nomatch e)⟩
  exact p.trans (pv.slots p.rep).toPost
end
def fldD (val:Str->D):List (Str × (Str ⊕ Str))->List (Str × D)->List (Str × D)
  | [],acc=>acc
  | (f,.inl m)::r,acc=>fldD val r ((f,.str m)::acc)
  | (f,.inr x)::r,acc=>fldD val r ((f,val x)::acc)
def xdD (ps:List Str) (fs:List (Str × (Str ⊕ Str))) (xs:List D):List (Str × D):=fldD (fun x=>((ps.zip xs).lookup x).getD .non) fs []
theorem ajV {K:PySem.W.Frag} {G:Hp} {val:Str->V} {vd:Str->D} (hv:∀ x,DOk K G (val x) (vd x)):∀ (fs:List (Str × (Str ⊕ Str))) {a:List (Str × V)} {b:List (Str × D)},FAll K G a b->FAll K G (fldV val fs a) (fldD vd fs b)
  | [],_,_,h=>h
  | (f,.inl m)::r,_,_,h=>ajV hv r (.cons (.str m) h)
  | (f,.inr x)::r,_,_,h=>ajV hv r (.cons (hv x) h)
theorem anC {K:PySem.W.Frag} {G:Hp} (x:Str):∀ {ps:List Str} {vs:List V} {xs:List D},DAll K G vs xs->DOk K G (((ps.zip vs).lookup x).getD .non) (((ps.zip xs).lookup x).getD .non)
  | [],_,_,_=>.non
  | _::_,_,_,.nil=>.non
  | p::ps,_,_,.cons h t=>by
    rw [List.zip_cons_cons,List.zip_cons_cons,List.lookup_cons,List.lookup_cons]
    cases x == p with
    | true=>exact h
    | false=>exact anC x t
theorem apv {K:PySem.W.Frag} {G:Hp} {ps:List Str} {fs:List (Str × (Str ⊕ Str))} {vs:List V} {xs:List D} (h:DAll K G vs xs):FAll K G (xdV ps fs vs) (xdD ps fs xs):=ajV (fun x=>anC x h) fs .nil
structure XCls (P:Program) (K:PySem.W.Frag) (mg:Str->Option Value) (C:Addr) (ps:List Str) (fs:List (Str × (Str ⊕ Str))):Prop where
  how:∃ file fI params body scope B newId initId bmB self,ExBase B newId initId bmB/\ExK K file C fI params body scope B newId initId bmB/\ExT body params scope self ps fs/\((P.main.file:Str) == file)=true/\(P.main.scope.names.lookup ("super":Str)).isSome=false/\
    (∀ (e:Addr) (us:List Value),us.length=ps.length->∀ (name qual:Str) (doc pm:Value) (an:Option Addr) (cda ct:Value) (cc:Addr),bindArgs (PySem.W.ksFn name qual params body scope .none .none doc pm an cda ct cc) ⟨.ref e::us,[]⟩=pure ((self::ps).zip (.ref e::us)))
  ht:∀ f∈fs,PySem.W.takerIn K C f.1=some none
  ne:∀ vs,xdV ps fs vs≠[]
  su:mg ("super":Str)=none
  kC:PySem.W.keepIn K (.ref C)=true
  ln:ps.length<=1000
def dRaise (C:Addr) (ps:List Str) (fs:List (Str × (Str ⊕ Str))) (ta:TDA):TDS:=fun E sl=>ta sl (fun ds s1=>match dats ds with
  | some xs=>xs.length=ps.length/\E.xc (.ref C) (xdD ps fs xs) s1
  | none=>False) E.xc
section
variable {X:Cx} {W:WX} {C:Addr} {ps:List Str} {fs:List (Str × (Str ⊕ Str))} {x:Str} {p pos rpos:Pos} {e:Expr} {es:List Expr} {ta:TDA} {tA:TA}
theorem XCls.make (T:XCls X.prog X.K X.mg C ps fs) (hr:Room 2 X.A) {pins:List (Addr × Obj)} {σ:L2.St} {H1:Hp} {s1:Shared} {us:List Value} {vs:List V} {Q:XK} (I1:Inv X pins σ H1 s1) (rv:Vals vs us) (hl:vs.length=ps.length)
    (q:∀ d,H1 d=none->Q (.ref C) (some d) (upd H1 d (.xd (xdV ps fs vs)))):wpAny (model X.prog X.w) X.A (call (.ref C) us) (L2N.MkP X pins σ Q) X.xe s1:=by
  obtain ⟨file,fI,params,body,scope,B,n1,n2,bmB,self,z1,z2,z3,z4,z5,z6⟩:=T.how
  exact apV z1 z2 z3 z4 z5 T.su z6 T.ht T.ne hr I1 rv hl (by rw [hl];exact T.ln) q
def tMkX (C:Addr) (ps:List Str) (fs:List (Str × (Str ⊕ Str))) (tA:TA):L2.St->Hp->XK->Prop:=fun σ H Q=>tA σ H fun vs H1=>vs.length=ps.length/\∀ d,H1 d=none->Q (.ref C) (some d) (upd H1 d (.xd (xdV ps fs vs)))
theorem pmk_x (T:XCls X.prog X.K X.mg C ps fs) (hr:Room 2 X.A) (hg:Gl X x) (hm:X.mg x=some (.ref C)) (ha:PA X (e::es) tA) (hdb:(x == ("__debug__":Str))=false:=by decide) (he:starEach (e::es) X.env=(false,eval e X.env)::starEach es X.env:=by rfl) (hpl:(backTo pos (starEach es X.env)).any (·.1)=false:=by rfl) :
    L2N.PMk X (.Call (.Name x p) (e::es) [] pos) (tMkX C ps fs tA):=by
  intro pins s σ H Q I h
  refine wpAny_Call_Name_kw (ld_glob I hg hm ?_ hdb)
  exact PySem.W.callWith_K (h₀:=X.base) I.ok.mod.kin T.kC (thn (ha.run pos pins s σ H _ I h) fun us s1 ⟨vs,H1,I1,r1,hl,q⟩=>⟨I1.kIn,T.make hr I1 r1 hl q⟩) he hpl
theorem amO {K:PySem.W.Frag} {D:Ends} {σ:L2.St} {H:Hp} (h:upS K W (dRaise C ps fs ta) D σ H):tMkX C ps fs (upA K W ta) σ H fun cls d H'=>W cls d σ H':=by
  obtain ⟨G,so,sl,E,rep,q,ok⟩:=h
  refine ⟨G,so,sl,_,E.xc,rep,q,fun vs H1 G1 ds s1 p w q1=>?_,ok.xc.ex⟩
  split at q1
  · rename_i xs ed
    have al:=agb w ed
    refine ⟨al.length.trans q1.1,fun d nd=>?_⟩
    exact ok.xc (.ref C) (some d) σ _ G1 _ s1 (p.alloc nd).s ⟨_,upd_same,apv al⟩ q1.2
  · exact q1.elim
theorem adz (hc:X.calm=true) (tk:L2N.Takes X W) (T:XCls X.prog X.K X.mg C ps fs) (hr:Room 2 X.A) (hg:Gl X x) (hm:X.mg x=some (.ref C)) (ha:DA X W (e::es) ta) (hdb:(x == ("__debug__":Str))=false:=by decide) (he:starEach (e::es) X.env=(false,eval e X.env)::starEach es X.env:=by rfl) (hpl:(backTo pos (starEach es X.env)).any (·.1)=false:=by rfl) :
    DS X W (.Raise (some (.Call (.Name x p) (e::es) [] pos)) none rpos) (dRaise C ps fs ta):=adp (L2N.ps_raise hc tk (pmk_x T hr hg hm ha hdb he hpl)) fun D σ H h=>amO h
end
theorem ann {B h h':Heap} {l:List Env} {a:Addr} {Z:Obj->Prop} (k:∀ b o,h.get? b=some o->h'.get? b=some o) (f:HandSPX.FlyingZ B l a Z h):HandSPX.FlyingZ B l a Z h':=by
  obtain ⟨f1,f2,f3,oe,vs,T,oT,ts,e1,e2,e3,e4,e5,e6,e7,e8⟩:=f
  exact ⟨fun b o q=>k b o (f1 b o q),f2,Heap.FunFrames.of_keeps (fun b o q _=>⟨o,k b o q,rfl⟩) f3,oe,vs,T,oT,ts,k _ _ e1,e2,e3,e4,e5,e6,k _ _ e7,e8⟩
def wAs3 (K:PySem.W.Frag) (cs:List Value) (i:Nat) (ts:Addr->Value->Option Addr->TS) (Wout:WX) (D:Ends):WX:=fun cls d σ H=>
  ∃ b,PySem.W.exmAny K cls cs=some b/\(b=true->∀ a,H a=none->ts a cls d { nx:=fun σ' H'=>D.nx (σ'.set i none) H',rt:=D.rt,bk:=fun σ' H'=>D.bk (σ'.set i none) H',ct:=fun σ' H'=>D.ct (σ'.set i none) H' } (σ.set i (some (.ref a))) H)/\(b=false->Wout cls d σ H)
section
variable {X:Cx} {x1 x2 x3 n:Str} {c1 c2 c3:Value} {i k:Nat} {body suite:List Stmt} {b0:Stmt} {q1 q2 q3 tp pos pos':Pos} {tb:WX->TS} {ts:Addr->Value->Option Addr->TS} {Wout:WX}
theorem apS {Y:Cx} {pins:List (Addr × Obj)} {σ:L2.St} {H:Hp} {s:Shared} {Q E:Value->Shared->Prop} (S:Inv Y pins σ H s) (h1:Names Y x1 c1) (h2:Names Y x2 c2) (h3:Names Y x3 c3)
    (q:Q (.ref s.heap.objs.size) { s with heap:=s.heap.push { cls:=.type "tuple",data:=.seq [c1,c2,c3].toArray } }) :
    wpAny (model Y.prog Y.w) Y.A (eval (.Tuple [.Name x1 q1,.Name x2 q2,.Name x3 q3] k tp) Y.env) Q E s:=by
  have one:∀ {x:Str} {c:Value} {p:Pos} {R:Value->Shared->Prop},Names Y x c->R c s->wpAny (model Y.prog Y.w) Y.A (eval (.Name x p) Y.env) R E s:=fun {x c p R} hx r=>by
    obtain ⟨hg,hd,hm | ⟨hm,hv,hn⟩⟩:=hx
    · exact ld_glob S hg hm r hd
    · exact ld_blt S hg hm hv r hn hd
  refine wpAny_Tuple_spliced ?_
  refine Calls.spliced_cons (one h1 (Calls.spliced_cons (one h2 (Calls.spliced_cons (one h3 (Calls.spliced_nil ?_))))))
  exact ⟨by show 3<=sizeLine;decide,q⟩
theorem akR (hs:X.stack=X.env::X.outer) (hf:X.env.frame=some X.env.locals) (hN:X.N.Nodup) (hi:X.N[i]?=some n) (hln:X.env.kindOf n=some .local) (h1:Names X x1 c1) (h2:Names X x2 c2) (h3:Names X x3 c3) (tk:L2N.Takes X Wout)
    (hb:∀ (W:WX) (pn:List (Addr × Obj)) (xe:Value->Shared->Prop),L2N.Takes (X.tr pn xe) W->PassesOwn (model X.prog X.w) X.A X.env xe->PSs (X.tr pn xe) body (tb W))
    (hsu:∀ (a:Addr) (oe:Obj) (cls:Value) (d:Option Addr) (pn:List (Addr × Obj)),L2N.Zn cls d oe->(∃ vs,oe.data=.fields vs)->PSs (X.suite a ((a,oe)::pn)) (b0::suite) (ts a cls d)) :
    PS X (.Try body [.ExceptHandler (some (.Tuple [.Name x1 q1,.Name x2 q2,.Name x3 q3] k tp)) (some n) (b0::suite) pos'] [] [] pos) (fun D σ H=>tb (wAs3 X.K [c1,c2,c3] i ts Wout D) D σ H):=by
  refine ⟨fun pins s σ H D I h=>?_⟩
  have Xok:=I.ok
  have frm:X.A.frames=some (X.env::X.outer):=by rw [Xok.frames,hs]
  refine wpAny_Try_except ?_
  let M:=model X.prog X.w
  let hd:ExceptHandler:=.ExceptHandler (some (.Tuple [.Name x1 q1,.Name x2 q2,.Name x3 q3] k tp)) (some n) (b0::suite) pos'
  let XH:Value->Shared->Prop:=fun e s1=>wpAny M X.A (noteFrame e X.env) (fun _ s2=>wpAny M X.A (setFlight e none) (fun _ s3=>wpAny M X.A (handleBy e X.env [hd]) (SP X pins D) X.xe s3) X.xe s2) X.xe s1
  have catches:L2N.Takes (X.tr (X.pn++pins) XH) (wAs3 X.K [c1,c2,c3] i ts Wout D):=fun u s' xx=>by
    obtain ⟨a,B,sI,pins',σ',H',cls,d,rfl,J',nb,up,sky,na,os,ag,b,hb1,yes,no⟩:=xx
    have J:Inv X pins σ' H' sI:=J'.ofTry Xok
    have sky2:Sky B (X.env::X.outer) a (L2N.Zn cls d) X.env.locals s'.heap:=by rw [<- hs];exact sky
    show wpAny M X.A (noteFrame (.ref a) X.env) _ _ _
    refine L2N.Sky.land L2N.Zn.steady frm hf sky2 fun g3 fl3 up3=>?_
    have notfr:a∉frs (X.env::X.outer):=fun hm=>by
      obtain ⟨oe,vs,e1,_,e3⟩:=fl3.there
      obtain ⟨_,o',e',nf⟩:=fl3.2.2.1.mem hm
      have z:=e1.symm.trans e'
      cases z
      exact nf _ e3
    have nL:a≠X.env.locals:=fun z=>notfr (List.mem_filterMap.mpr ⟨X.env,List.mem_cons_self,by rw [hf,z]⟩)
    have nF:a∉X.fs:=fun hm=>by
      obtain ⟨v,hv,q⟩:=List.mem_filterMap.mp hm
      exact notfr (List.mem_filterMap.mpr ⟨v,List.mem_cons_of_mem _ hv,q⟩)
    refine wpAny_handleBy_cons (codeAny_handlers_test ?_) (by intro q;cases q)
    have J3:Inv X pins σ' H' { s' with heap:=g3 }:=J.landed nb fl3.1 (up.trans up3) os ag
    obtain ⟨oe3,vs3,e3,z3,d3⟩:=fl3.there
    have S3:=J3.suite e3 d3 na nL nF
    refine apS (Y:=X.suite a ((a,oe3)::(X.pn++pins))) S3 h1 h2 h3 ?_
    let g4:=g3.push { cls:=.type "tuple",data:=.seq [c1,c2,c3].toArray }
    have k4:∀ b o,g3.get? b=some o->g4.get? b=some o:=fun b o q=>Heap.get?_push_of_some _ q
    have fl4:=ann k4 fl3
    have up4:g3.UpToSlots g4:=Heap.UpToSlots.of_keeps k4
    have LT:PySem.W.Looks M g4 (typeOf (.ref a)) cls:=fun A Q E s k q=>wpAny_typeOf_ref (k _ _ (k4 _ _ e3)) (by rw [z3.1];exact q)
    have LM:PySem.W.Looks M g4 (excMatches (.ref a) (.ref g3.objs.size)) b:=PySem.W.exm_tup3 (K:=X.K) (fun b o q=>k4 b o (J3.kIn b o q)) LT (Heap.get?_push_at rfl rfl) hb1
    refine LM.here (s:={ s' with heap:=g4 }) ?_
    cases b with
    | true=>
      refine codeAny_handlers_suite_as ?_
      refine HandSPX.lands_againZ fl4 fun g5 fl5 up5=>?_
      have J5:Inv X pins σ' H' { s' with heap:=g5 }:=J.landed nb fl5.1 (((up.trans up3).trans up4).trans up5) os ag
      obtain ⟨oe5,vs5,e5,z5,d5⟩:=fl5.there
      have S5:=J5.suite e5 d5 na nL nF
      refine store_ok (X:=X.suite a ((a,oe5)::(X.pn++pins))) (v:=.ref a) S5 hN hi (.inl hln) rfl (fun s6 S6=>?_) (.inr hln)
      refine wpAny_mono ((hsu a oe5 cls d (X.pn++pins) z5 ⟨_,d5⟩).run [] s6 _ H' _ S6 (yes rfl a na)) (fun f s7 r7=>?_) (fun _ _ z=>False.elim z)
      have leave:∀ {σ7:L2.St} {H7:Hp} {Q:Shared->Prop},Inv (X.suite a ((a,oe5)::(X.pn++pins))) [] σ7 H7 s7->(∀ s8,Inv X pins (σ7.set i none) H7 s8->Q s8)->
          wpAny M X.A (do bindName X.env n .none;unbindBehindTheSuite X.env n pos') (fun _ s8=>Q s8) X.xe s7:=fun S q=>gone_ok (S.unsuite Xok) hN hi hln q
      cases f with
      | next=>obtain ⟨σ7,H7,S7,y⟩:=r7;exact leave S7 fun s8 J8=>⟨_,_,J8,y⟩
      | brk=>obtain ⟨σ7,H7,S7,y⟩:=r7;exact leave S7 fun s8 J8=>⟨_,_,J8,y⟩
      | cont=>obtain ⟨σ7,H7,S7,y⟩:=r7;exact leave S7 fun s8 J8=>⟨_,_,J8,y⟩
      | ret u=>obtain ⟨v7,σ7,H7,S7,r,y⟩:=r7;exact leave S7 fun s8 J8=>⟨_,_,_,J8,r,y⟩
    | false=>
      show wpAny M X.A (handleBy (.ref a) X.env []) _ _ _
      refine wpAny_handleBy_nil ?_
      obtain ⟨_,_,_,oe,vs,T,oT,ts',e1,_,e2,e6,_⟩:=id fl4
      unfold PySem.passOn
      refine wpAny_bind (wpAny_field e1 e2 e6 ?_)
      rw [if_neg (show ¬ ((Value.ref T == Value.none)=true) from by simp)]
      have fin:wpAny M X.A (setFlight (.ref a) X.env.frame) (fun _ s4=>wpAny M X.A (throw (.ref a):Sem Flow) (SP X pins D) X.xe s4) X.xe { s' with heap:=g4 }:=by
        rw [hf]
        refine HandSPX.setFlight_upZ fl4 fun g5 hh5 up5=>wpAny_throw (tk _ _ ?_)
        exact ⟨a,B,sI,pins,σ',H',cls,d,rfl,J,nb,((up.trans up3).trans up4).trans up5,.inr (.inr (by rw [hs];exact hh5)),na,os,ag,no rfl⟩
      first
        | exact wpAny_bind (wpAny_pure (wpAny_bind fin))
        | exact wpAny_bind fin
  refine wpAny_mono ((hb _ (X.pn++pins) XH catches PassesOwn.looking).run [] s σ H D (I.toTry _) h) (fun f s1 r1=>?_) (fun e s1 he=>he)
  cases f with
  | next=>obtain ⟨σ',H',J',q⟩:=r1;exact wpAny_execs_nil ⟨σ',H',J'.ofTry Xok,q⟩
  | brk=>obtain ⟨σ',H',J',q⟩:=r1;exact ⟨σ',H',J'.ofTry Xok,q⟩
  | cont=>obtain ⟨σ',H',J',q⟩:=r1;exact ⟨σ',H',J'.ofTry Xok,q⟩
  | ret u=>obtain ⟨v,σ',H',J',r,q⟩:=r1;exact ⟨v,σ',H',J'.ofTry Xok,r,q⟩
end
def Grown (H H1:Hp) (P c':Addr) (q:Str) (ps:Array Value):Prop:=H1=H\/(H c'=none/\∃ l k:Nat,H1=upd (upd H P (.tbl (ps++#[rawInt l,rawInt k,.ref c']))) c' (LamX.CodeO c' q))
abbrev lamO (X:Cx) (params:Arguments) (body:Expr) (scope:Scope) (dV doc pm:Value) (c':Addr) (ctv:Value):Obj:=
  PySem.W.kdv_obj "<lambda>" (X.env.qual++"<lambda>") params (.expr body) scope (cloFrom X.env.cells scope.names []) dV doc pm c' ctv
section
variable {X:Cx} {pins:List (Addr × Obj)} {σ:L2.St} {H:Hp} {s:Shared} {c P:Addr} {ps:Array Value} {params:Arguments} {body:Expr} {scope:Scope} {pos:Pos} {Q E:Value->Shared->Prop}
theorem agG (I:Inv X pins σ H s) {f:Addr} (hf:s.heap.objs.size<=f):f∉frs X.stack:=fun z=>by
  rcases List.mem_cons.mp (I.stkSub _ z) with e | e
  · have h1:=I.lt
    rw [<- e] at h1
    exact Nat.lt_irrefl _ (Nat.lt_of_lt_of_le h1 hf)
  · exact I.nofs hf e
theorem akv {dV:Value} {ln:Nat} (I:Inv X pins σ H s) (TB:LamX.TabB X.base X.mg c P) (hcode:X.env.code=.ref c) (hP:H P=some (.tbl ps)) (ht:TriplesOk ps.toList)
    (ha:∀ (pos:Pos) (cv:Value),codeAmong pos ps.toList=some cv->∃ c',cv=.ref c'/\H c'=some (LamX.CodeO c' (X.env.qual++"<lambda>"))) (hfree:∀ y∈scope.names,y.2=.free->∃ c,X.env.cells.lookup y.1=some c)
    (h:∀ (f c':Addr) (doc pm ctv:Value) (H1:Hp) (s':Shared),Inv X pins σ H1 s'->Grown H H1 P c' (X.env.qual++"<lambda>") ps->s'.heap.get? f=some (lamO X params body scope dV doc pm c' ctv)->H1 f=none->f∉frs X.stack->H1 c'=some (LamX.CodeO c' (X.env.qual++"<lambda>"))->
      (∀ b o,b≠P->s.heap.get? b=some o->s'.heap.get? b=some o)->(∀ b,s.heap.objs.size<=b->b < f->H1 b=none\/b=c')->Q (.ref f) s') :
    wpAny (model X.prog X.w) X.A (makeTail "<lambda>" (X.env.qual++"<lambda>") params (.expr body) scope X.env dV .none none pos ln) Q E s:=by
  have bP:s.heap.BuiltinsAt X.mg P:=TB.bm.keeps I.bk
  have tP:s.heap.get? P=some { cls:=.none,data:=.fields ps }:=I.hok P _ hP
  cases hc:codeAmong pos ps.toList with
  | none=>
    refine PySem.W.kdv_makeTail (mg:=X.mg) (c:=c) (P:=P) (ps:=ps) (closure_ok hfree) I.ok.glob (I.mod.glob.keeps I.bk) hcode (TB.code.keeps I.bk) tP ht hc TB.gP bP fun c' ctv doc g tk ext ge lt rec tab=>?_
    obtain ⟨c2,oc,cv,t,rfl',o1,o2,o3⟩:=rec
    cases rfl'
    have nC:H c'=none:=I.hok.fresh ge
    have J:=LamX.inv_table (t':=tk) (q:=X.env.qual++"<lambda>") (more:=#[rawInt pos.line,rawInt pos.col,.ref c']) (h':=g.push (lamO X params body scope dV doc ((X.mg "__name__").getD .none) c' ctv)) I hP
      (fun b o hb e=>Heap.get?_push_of_some _ (ext b o hb e)) (Heap.get?_push_of_some _ tab) ge ⟨oc,cv,t,Heap.get?_push_of_some _ o1,o2,o3⟩
    have sz:s.heap.objs.size<=g.objs.size:=Nat.le_trans ge (Nat.le_of_lt lt)
    have fr:∀ b,s.heap.objs.size<=b->b≠c'->upd (upd H P (.tbl (ps++#[rawInt pos.line,rawInt pos.col,.ref c']))) c' (LamX.CodeO c' (X.env.qual++"<lambda>")) b=none:=fun b hb nb=>by
      have nbP:b≠P:=fun z=>by subst z;exact absurd (Heap.lt_size tP) (Nat.not_lt.mpr hb)
      rw [upd_ne nb,upd_ne nbP]
      exact I.hok.fresh hb
    refine h g.objs.size c' doc _ ctv _ _ J (.inr ⟨nC,_,_,rfl⟩) (Heap.get?_push_size _ rfl) (fr _ sz (Nat.ne_of_gt lt)) (agG I sz) upd_same (fun b o hb e=>Heap.get?_push_of_some _ (ext b o hb e)) fun b h1 h2=>?_
    by_cases z:b=c'
    · exact .inr z
    · exact .inl (fr b h1 z)
  | some cv=>
    obtain ⟨c',rfl,hco⟩:=ha pos cv hc
    refine PySem.W.kdv_makeTailHit (mg:=X.mg) (c:=c) (P:=P) (ps:=ps) (closure_ok hfree) I.ok.glob (I.mod.glob.keeps I.bk) hcode (TB.code.keeps I.bk) tP ht hc bP fun ctv doc g tk ext sz=>?_
    have J:Inv X pins σ H { s with heap:=g.push (lamO X params body scope dV doc ((X.mg "__name__").getD .none) c' ctv),toks:=tk }:=I.kept fun b o e=>Heap.get?_push_of_some _ (ext b o e)
    exact h g.objs.size c' doc _ ctv H _ J (.inl rfl) (Heap.get?_push_size _ rfl) (I.hok.fresh sz) (agG I sz) hco (fun b o _ e=>Heap.get?_push_of_some _ (ext b o e)) fun b h1 _=>.inl (I.hok.fresh h1)
inductive LamPar:Arguments->List Str->Prop
  | none {params:Arguments} (h1:params.defaults=[]) (h2:params.kw_defaults=[])
      (hb:∀ (q:Str) (body:Expr) (scope:Scope) (cl:List (Str × Addr)) (doc pm cv ctv:Value),bindArgs (PySem.W.kdv_fn "<lambda>" q params (.expr body) scope cl .none doc pm cv ctv) ⟨[],[]⟩=pure []):LamPar params []
  | one {params:Arguments} {x:Str} {i:Int} {j:Nat} {p:Pos} (h1:params.defaults=[.Constant (.int i) j p]) (h2:params.kw_defaults=[])
      (hb:∀ (q:Str) (body:Expr) (scope:Scope) (cl:List (Str × Addr)) (dV doc pm cv ctv v:Value),∃ k,bindArgs (PySem.W.kdv_fn "<lambda>" q params (.expr body) scope cl dV doc pm cv ctv) ⟨[],[]⟩=seqItems? dV >>= k/\k (some #[v])=pure [(x,v)]):LamPar params [x]
def LamAt (X:Cx) (params:Arguments) (body:Expr) (scope:Scope) (f c':Addr) (H:Hp) (s:Shared):Prop:=∃ dV doc pm ctv,s.heap.get? f=some (lamO X params body scope dV doc pm c' ctv)/\H f=none/\f∉frs X.stack/\
  ((params.defaults=[]/\dV=.none)\/∃ T i t,dV=.ref T/\s.heap.get? T=some (PySem.W.kdv_tup [.int i t])/\H T=none/\T∉frs X.stack/\params.defaults≠[])
theorem ani {xs:List Str} (hp:LamPar params xs) (I:Inv X pins σ H s) (TB:LamX.TabB X.base X.mg c P) (hcode:X.env.code=.ref c) (hP:H P=some (.tbl ps)) (ht:TriplesOk ps.toList)
    (ha:∀ (pos:Pos) (cv:Value),codeAmong pos ps.toList=some cv->∃ c',cv=.ref c'/\H c'=some (LamX.CodeO c' (X.env.qual++"<lambda>"))) (hfree:∀ y∈scope.names,y.2=.free->∃ c,X.env.cells.lookup y.1=some c)
    (h:∀ (f c':Addr) (H1:Hp) (s':Shared),Inv X pins σ H1 s'->Grown H H1 P c' (X.env.qual++"<lambda>") ps->LamAt X params body scope f c' H1 s'->H1 c'=some (LamX.CodeO c' (X.env.qual++"<lambda>"))->Q (.ref f) s') :
    wpAny (model X.prog X.w) X.A (eval (.Lambda params body scope pos) X.env) Q E s:=by
  cases hp with
  | none h1 h2 hb=>
    have hdef:defaultsOf params X.env=([],[]):=by
      obtain ⟨a1,a2,a3,a4,a5,a6,a7⟩:=params
      cases h1;cases h2
      rfl
    refine PySem.W.kla_eval hdef ?_
    rw [makeFunction_eq]
    simp only [List.zip_nil_right,List.filterMap_nil,List.isEmpty_nil,if_true,pure_bind]
    exact akv I TB hcode hP ht ha hfree fun f c' doc pm ctv H1 s' J g o n nf hc k _=>h f c' H1 s' J g ⟨_,_,_,_,o,n,nf,.inl ⟨h1,rfl⟩⟩ hc
  | @one x i j p h1 h2 hb=>
    refine PySem.W.kdv_lam (by rw [h1];rfl) h2 ?_
    rw [h1]
    refine PySem.W.kdv_all1 (wpAny_Constant_int (PySem.W.kdv_all0 ?_))
    rw [makeFunction_eq]
    simp only [List.zip_nil_right,List.filterMap_nil,List.isEmpty_nil,if_true,pure_bind,List.isEmpty_cons,Bool.false_eq_true,if_false]
    refine wpAny_bind (wpAny_newTextTuple ?_)
    have I2:Inv X pins σ H { s with heap:=s.heap.push (PySem.W.kdv_tup [.int i s.toks]),toks:=s.toks + 1 }:=I.kept fun b o e=>Heap.get?_push_of_some _ e
    refine akv I2 TB hcode hP ht ha hfree fun f c' doc pm ctv H1 s' J g o n nf hc k fr=>?_
    have tT:s.heap.objs.size≠P:=fun z=>Nat.lt_irrefl _ (Nat.lt_of_lt_of_le (Heap.lt_size (I.hok P _ hP)) (Nat.le_of_eq z))
    have sT:(s.heap.push (PySem.W.kdv_tup [.int i s.toks])).get? s.heap.objs.size=some (PySem.W.kdv_tup [.int i s.toks]):=Heap.get?_push_size _ rfl
    refine h f c' H1 s' J g ⟨_,_,_,_,o,n,nf,.inr ⟨s.heap.objs.size,i,s.toks,rfl,k _ _ tT sT,?_,agG I (Nat.le_refl _),by rw [h1];simp⟩⟩ hc
    rcases g with rfl | ⟨z,l,k',rfl⟩
    · exact I.hok.fresh (Nat.le_refl _)
    · have nc:s.heap.objs.size≠c':=fun y=>by
        subst y
        have w:=J.hok _ _ hc
        obtain ⟨⟨oc,vs,t,e1,e2,_⟩,_⟩:=w
        have e3:=k _ _ tT sT
        rw [e1] at e3
        cases e3
        cases e2
      rw [upd_ne nc,upd_ne tT]
      exact I.hok.fresh (Nat.le_refl _)
end
structure LamN (N:List Str) (sc scope:Scope) (xs:List Str):Prop where
  kind:scope.kind=.function
  co:scope.isCoroutine=false
  gen:scope.isGenerator=false
  own:∀ y∈scope.names,y.2≠.cell/\(y.2=.local->y.1∉N)
  free:∀ y∈scope.names,y.2=.free->sc.names.lookup y.1=some .cell\/sc.names.lookup y.1=some .free
  par:∀ a∈xs,scope.names.lookup a=some .local
def lamC (X:Cx) (A:Around) (outer:List Env) (s:Shared) (H:Hp) (E:XK) (scope:Scope) (f c':Addr):Cx:=
  { LamX.lamCx X A outer s H E scope f c' with
    xe:=fun e s'=>wpAny (model X.prog X.w) (A.deeper (LamX.lamEnv X scope s.heap.objs.size f c')) (leaving (LamX.lamEnv X scope s.heap.objs.size f c') e) (fun _ s''=>L2N.CX X.prog X.w outer H s E e s'') (fun e' s''=>L2N.CX X.prog X.w outer H s E e' s'') s' }
section
variable {X:Cx} {pins:List (Addr × Obj)} {σ:L2.St} {H HZ:Hp} {s s1:Shared} {params:Arguments} {xs:List Str}
theorem LamN.has {scope:Scope} (L:LamN X.N X.env.scope scope xs) (ok:X.Ok):∀ y∈scope.names,y.2=.free->∃ c,X.env.cells.lookup y.1=some c:=fun y hy e=>by
  rcases L.free y hy e with k | k
  · exact ok.has _ (.inl k)
  · exact ok.has _ (.inr k)
theorem alW {A:Around} {outer:List Env} {E:XK} {scope:Scope} {f c':Addr} {h1:Heap} {tk:Nat} {m:Str->Option Value} (I:Inv X pins σ H s) (L:LamN X.N X.env.scope scope xs) (e0:Env0 X.prog X.w X.K X.mg X.base A outer s1 HZ) (hd:A.handled=none)
    (un:Un (frs X.stack) [] H HZ s.heap s1.heap) (hns:h1.Ns s1.heap.objs.size m) (kp:∀ b o,s1.heap.get? b=some o->h1.get? b=some o) :
    Inv (lamC X A outer s1 HZ E scope f c') [] σ HZ { s1 with heap:=h1,toks:=tk }:=by
  have hfree:=L.has I.ok
  have back:∀ {y:Str} {d:Addr},(cloFrom X.env.cells scope.names []).lookup y=some d->X.env.cells.lookup y=some d:=fun {y d} e=>by
    rcases cloFrom_mem (PySem.mem_of_lookup e) with hm | ⟨z1,z2⟩
    · cases hm
    · obtain ⟨d1,hc⟩:=hfree _ z1 rfl
      have hc':X.env.cells.lookup y=some d1:=hc
      have e2:d=d1:=by rw [z2,hc']<;>rfl
      rw [e2];exact hc'
  have forth:∀ {y:Str},scope.names.lookup y=some .free->∃ d,(cloFrom X.env.cells scope.names []).lookup y=some d:=fun {y} hl=>
    mem_lookup (cloFrom_has (cells:=X.env.cells) (acc:=[]) (PySem.mem_of_lookup hl:(y,NameKind.free)∈scope.names))
  have cellK:∀ {d:Addr} {v:Option Value},H d=none->s.heap.IsCell d v->h1.IsCell d v:=fun {d v} n ⟨o,ho,hdt⟩=>by
    obtain ⟨sl,q⟩:=un.any ho n (by simp)
    exact ⟨_,kp _ _ q,hdt⟩
  have noX:∀ b:Addr,b∉(lamC X A outer s1 HZ E scope f c').ex:=fun b z=>absurd (show b∈([]:List Addr) from z) (by simp)
  have OK:(lamC X A outer s1 HZ E scope f c').Ok:=⟨e0.mod,L.kind,rfl,rfl,Nat.le_refl _,fun y z c e1 e2=>I.ok.inj y z c (back e1) (back e2),fun y hy=>by
      have hy':scope.names.lookup y=some .cell\/scope.names.lookup y=some .free:=hy
      rcases hy' with hy' | hy'
      · exact absurd rfl (L.own _ (PySem.mem_of_lookup hy')).1
      · exact forth hy',
    fun y c z _=>(Bool.noConfusion (show false=true from z)),fun _=>hd,Around.frames_deeper e0.frames,.inr ⟨rfl,rfl⟩,fun b z=>absurd z (noX b),e0.bs,e0.bsz,fun b _ _=>noX b,fun b z=>absurd z (noX b),e0.funs,e0.frf⟩
  refine ⟨OK,rfl,e0.bare,Un.kept kp,⟨m,hns,fun i y v e1 e2 e3=>?_⟩,fun y c e=>?_,e0.hok.fresh (Nat.le_refl _),fun y c e=>?_,fun q hq=>absurd (show q∈([]:List (Addr × Obj))++[] from hq) (by simp),e0.hok.kept kp,I.len⟩
  · have vis:Vis scope y:=e3
    have iN:y∈X.N:=List.mem_of_getElem? e1
    rcases vis with k | k | k
    · exact absurd iN ((L.own _ (PySem.mem_of_lookup k)).2 rfl)
    · exact absurd rfl (L.own _ (PySem.mem_of_lookup k)).1
    · obtain ⟨m0,hn0,hl⟩:=I.loc
      have src:=L.free _ (PySem.mem_of_lookup k) rfl
      obtain ⟨u,r,q⟩:=hl i y v e1 e2 (src.elim (fun z=>.inr (.inl z)) fun z=>.inr (.inr z))
      obtain ⟨d,hd2⟩:=forth k
      refine ⟨u,r,.inr ⟨.inr k,d,hd2,?_⟩⟩
      have hb:=back hd2
      rcases q with ⟨k',_⟩ | ⟨_,d3,e',z⟩
      · have k'':X.env.scope.names.lookup y=some .local:=k'
        rcases src with k2 | k2<;>rw [show X.env.scope.names.lookup y=_ from k2] at k''<;>cases k''
      · rw [hb] at e';cases e'
        exact cellK (I.freeC y _ hb) z
  · obtain ⟨u,z⟩:=I.cell y c (back e)
    exact ⟨u,cellK (I.freeC y c (back e)) z⟩
  · obtain ⟨v,o,ho,hdt⟩:=I.cell y c (back e)
    exact un.free c o ho (I.freeC y c (back e)) (by simp)
abbrev gotC (X:Cx) (Ng:List Str) (qg:Str) (sg:Scope) (g:Addr) (cdg:Value) (s:Shared) (H:Hp) (Eg:XK):Cx:=cxOf (L2N.CX X.prog X.w) X.prog X.w X.K X.mg X.base Ng qg sg g cdg X.A X.stack s H Eg
theorem apO {Eg:XK} {Ng:List Str} {qg:Str} {sg:Scope} {g f c':Addr} {cdg:Value} {body:Expr} {scope:Scope} {k i:Nat} {a:Str} {pn:List (Addr × Obj)} {xe:Value->Shared->Prop} {W:WX} {E:XK} {tb:TE} {p1 p2:Pos}
    (hp:LamPar params xs) (I:Inv X pins σ H s) (L:LamN X.N X.env.scope scope xs)
    (la:LamAt X params body scope f c' H s) (tk:L2N.Takes ((gotC X Ng qg sg g cdg s H Eg).tr pn xe) W) (hW:∀ cls d (σ':L2.St) H',σ'.length=Ng.length->E cls d H'->W cls d σ' H') (hr:Room (k + 1) (X.A.deeper (envOfC qg sg s.heap.objs.size g cdg))) (hgd:X.A.guards=some [])
    (hbody:∀ (A:Around) (outer:List Env) (s:Shared) (H:Hp),Room k (A.deeper (LamX.lamEnv X scope s.heap.objs.size f c'))->A.guards=some []->PE (lamC X A outer s H E scope f c') body tb)
    (hN:Ng[i]?=some a) (hv:Vis sg a) (hd:(a == ("__debug__":Str))=false:=by decide) (hcd:(a == ("__classdict__":Str))=false:=by decide) :
    PE ((gotC X Ng qg sg g cdg s H Eg).tr pn xe) (.Call (.Name a p1) [] [] p2)
      (fun σZ HZ Q=>σZ[i]?=some (some (.ref f))/\HZ c'=some (LamX.CodeO c' (X.env.qual++"<lambda>"))/\tb σ HZ Q):=by
  refine ⟨fun pinsZ sZ σZ HZ Q IZ h=>?_⟩
  obtain ⟨hs,hc,ht⟩:=h
  refine wpAny_Call_Name_kw (thn ((pe_var (pos:=p1) (i:=i) hN hv hd hcd).run pinsZ sZ σZ HZ (fun v H1=>v=.ref f/\H1=HZ) IZ ⟨.ref f,hs,rfl,rfl⟩) fun u s1 ⟨v,H1,I1,r1,q1⟩=>?_)
  obtain ⟨rfl,rfl⟩:=q1
  obtain rfl:u=Value.ref f:=r1
  obtain ⟨dV,doc,pm,ctv,of0,nf,ff,dfl⟩:=la
  have noex:∀ b:Addr,b∉((gotC X Ng qg sg g cdg s H Eg).tr pn xe).ex:=fun b z=>absurd (show b∈([]:List Addr) from z) (by simp)
  have of1:s1.heap.get? f=some (lamO X params body scope dV doc pm c' ctv):=I1.base.keep f _ of0 nf ff (noex f)
  refine PySem.W.callWith_F0 ⟨_,_,_,_,of1⟩ ?_
  have un:Un (frs X.stack) [] H H1 s.heap s1.heap:=I1.base
  obtain ⟨⟨oc,vs,t,hoc,hdc,hvc⟩,_,_⟩:=I1.hok c' _ hc
  obtain ⟨binds,hbd,hlc⟩:∃ binds,BindsTo s1 (PySem.W.kdv_fn "<lambda>" (X.env.qual++"<lambda>") params (.expr body) scope (cloFrom X.env.cells scope.names []) dV doc pm (.ref c') ctv) ⟨[],[]⟩ binds/\∀ y∈binds,scope.names.lookup y.1=some .local:=by
    cases hp with
    | none h1 h2 hb=>
      rcases dfl with ⟨_,rfl⟩ | ⟨_,_,_,_,_,_,_,z⟩
      · exact ⟨[],BindsTo.of_eq (hb _ _ _ _ _ _ _ _),fun y hy=>absurd hy (by simp)⟩
      · exact absurd h1 z
    | @one x i0 j p h1 h2 hb=>
      rcases dfl with ⟨z,_⟩ | ⟨T,iT,tT,rfl,oT,nT,fT,z⟩
      · rw [h1] at z;cases z
      · obtain ⟨kk,e1,e2⟩:=hb (X.env.qual++"<lambda>") body scope (cloFrom X.env.cells scope.names []) (.ref T) doc pm (.ref c') ctv (.int iT tT)
        refine ⟨[(x,.int iT tT)],BindsTo.of_defaults rfl (I1.base.keep T _ oT nT fT (noex T)) rfl e1 e2,fun y hy=>?_⟩
        rw [List.mem_singleton.mp hy]
        exact L.par x (List.mem_singleton.mpr rfl)
  have rc:codeAny (model X.prog X.w) (X.A.deeper (envOfC qg sg s.heap.objs.size g cdg)) (.call (.ref f) ⟨[],[]⟩) (CR (L2N.CX X.prog X.w) (envOfC qg sg s.heap.objs.size g cdg::X.stack) X.prog X.w H1 s1 Q E) s1:=by
    refine PySem.W.kla_callFunE hr.depth of1 rfl L.co L.gen rfl ⟨c',oc,vs,t,rfl,hoc,hdc,hvc⟩ (hbd _ _ _ _ ?_)
    refine wpAny_newFunctionEnv (fun y hy=>(L.own y hy).1) hlc (fun h1 hns hsb=>⟨I1.nolimit.fresh _ hsb,?_⟩) L.kind
    show codeAny _ _ (.expr body (LamX.lamEnv X scope s1.heap.objs.size f c')) _ _
    have kp:∀ b o,s1.heap.get? b=some o->h1.get? b=some o:=fun b o e=>hsb.extBut b o (Nat.ne_of_lt (Heap.lt_size e)) (Heap.get?_push_of_some _ e)
    have J:=alW (A:=X.A.deeper (envOfC qg sg s.heap.objs.size g cdg)) (outer:=envOfC qg sg s.heap.objs.size g cdg::X.stack) (E:=E) (f:=f) (c':=c') (tk:=s1.toks + binds.length) I L I1.env0 hr.hd un hns kp
    refine PySem.W.kla_codeExpr (wpAny_mono ((hbody _ _ s1 H1 (hr.deeper _) hgd).run [] _ _ H1 Q J ht) (fun v s' hq=>?_) fun e s' hq=>hq)
    obtain ⟨w',H',J',rv,q⟩:=hq
    exact ⟨w',H',J'.os,J'.bare,J'.base,J'.hok,rv,q⟩
  refine wpAny_call (codeAny_mono rc fun r s' hq=>?_)
  cases r with
  | error e=>exact tk e s' (L2N.XE.of_call I1 (fun cls d H' h=>hW cls d σZ H' I1.len h) hq)
  | ok fl=>
    cases fl with
    | ret u=>exact I1.after hq
    | next=>exact False.elim hq
    | brk=>exact False.elim hq
    | cont=>exact False.elim hq
end
structure PinX (K:PySem.W.Frag) (p:Addr × Obj) (C dx:Addr):Prop where
  z:L2N.Zn (.ref C) (some dx) p.2
  f:∃ vs,p.2.data=.fields vs
  x:XfC K C
def tXfP (K:PySem.W.Frag) (p:Addr × Obj) (n:Str) (te:TE):TE:=fun σ H Q=>te σ H fun x H1=>x=.ref p.1/\∃ C dx fs v,PinX K p C dx/\PySem.W.findIn K (.ref C) n=some none/\H1 dx=some (.xd fs)/\fs.lookup n=some v/\Q v H1
theorem abU {Y:Cx} {p:Addr × Obj} {e:Expr} {te:TE} {pos:Pos} {n:Str} (hp:p∈Y.pn) (he:PE Y e te) (hb:attributeBase e n Y.env (eval e Y.env)=eval e Y.env:=by rfl):PE Y (.Attribute e n pos) (tXfP Y.K p n te):=by
  refine ⟨fun pins s σ H Q I h=>?_⟩
  refine attr_of hb (thn (he.run pins s σ H _ I h) fun u s1 ⟨x,H1,I1,rx,ex,C,dx,fs,v,T,hno,ea,l,q⟩=>?_)
  subst ex
  obtain rfl:u=Value.ref p.1:=rx
  obtain ⟨ga,_⟩:=I1.pin p (List.mem_append_left _ hp)
  obtain ⟨vs,hd⟩:=T.f
  obtain ⟨mA,hns,hr⟩:ObjOk Y.prog Y.w H1 s1.heap dx (.xd fs):=I1.hok dx _ ea
  obtain ⟨od,ho,hl⟩:=lookIn_ns hns
  obtain ⟨w,hw,rw'⟩:=RelO.some_of (v:=v) (o:=mA n) (by rw [<- l];exact hr n)
  have J:PySem.W.InstAt s1.heap p.1 p.2 C (some od):=⟨ga,T.z.1,by unfold PySem.W.notCls;rw [hd]<;>rfl,by rw [T.z.2.1];exact ho⟩
  exact HandSPX.exc_get I1.kIn J T.x.ga T.x.gg T.x.exC (PySem.W.findObj_own T.x.hdC hno rfl (by rw [hl,hw])) (handed_of rw') ⟨v,H1,I1.tok _,rw',q⟩
structure FnP (P:Program) (w:World) (K:PySem.W.Frag) (mg:Str->Option Value) (base:Heap) (k:Nat) (f:Addr) (fd:FuncData) (ps:List Str) (sp:Addr × Obj->Sp):Prop where
  len:∀ p vs H Q E,sp p vs H Q E->vs.length=ps.length
  run:∀ (A:Around) (outer:List Env) (s:Shared) (H:Hp) (args:Args) (us:List Value) (vs:List V) (Q:VK) (E:XK) (p:Addr × Obj),L2H.RoomH k A->L2H.Hot1 A p->L2H.PinOk outer H s p->Env0 P w K mg base A outer s H->BindsTo s fd args (ps.zip us)->Vals vs us->sp p vs H Q E->
    codeAny (model P w) A (.call (.ref f) args) (CR (L2N.CX P w) outer P w H s Q E) s
theorem aqi {P:Program} {w:World} {K:PySem.W.Frag} {mg:Str->Option Value} {base:Heap} {x qual:Str} {params:Arguments} {body:List Stmt} {scope:Scope} {dvs:List V} {kws:List (Str × V)} {f:Addr} {fd:FuncData} {N ps:List Str} {k:Nat} {sp:Addr × Obj->Sp}
    (F:FunD K x qual params body scope dvs kws f fd) (S:FnScope N ps scope) (len:∀ p vs H Q E,sp p vs H Q E->vs.length=ps.length)
    (hd:∀ (cdv:Value) (A:Around) (outer:List Env) (s:Shared) (H:Hp) (vs:List V) (Q:VK) (E:XK) (p:Addr × Obj),sp p vs H Q E->
      ∃ t,PSs (L2H.cxH (L2N.CX P w) P w K mg base N qual scope f cdv A outer s H E p) body t/\t { nx:=fun _ H'=>Q .non H',rt:=Q } (L2.start N vs) H):FnP P w K mg base (k + 1) f fd ps sp:=by
  obtain ⟨oc,od,dV,kV,doc,pm,an,cdv,ct,osl,rfl,lk,hcd,_,_⟩:=F.ex
  refine ⟨len,fun A outer s H args us vs Q E p hroom hot pin e0 hb r hsp=>?_⟩
  have KX:K.In s.heap:=e0.mod.kin.keeps fun b o e=>(e0.bs b o e).1
  have lim:s.heap.NoLimit:=e0.mod.nolimit.keeps fun b o e=>(e0.bs b o e).1
  have hkind:((ps.zip us).all fun y=>scope.names.lookup y.1 == some .local || scope.names.lookup y.1 == some .cell)=true:=by
    rw [List.all_eq_true]
    rintro ⟨n,u⟩ hy
    rcases S.par n (List.of_mem_zip hy).1 with z | z
    · show (scope.names.lookup n == some .local || _)=true
      rw [z];rfl
    · show (scope.names.lookup n == some .local || scope.names.lookup n == some .cell)=true
      rw [z];rfl
  refine Att.call_fn KX lim lk hcd hroom.depth hb hkind (fun s1 x=>?_) S.co S.gen S.kind
  have I:=L2H.inv_startH (CX:=L2N.CX P w) (E:=E) S pin e0 (len _ _ _ _ _ hsp) r x
  obtain ⟨t,pt,qt⟩:=hd cdv A outer s H vs Q E p hsp
  refine wpAny_mono (pt.run [] s1 (L2.start N vs) H _ I qt) (fun fl s' hs=>?_) fun e s' hs=>hs
  cases fl with
  | ret u=>
    obtain ⟨v,σ',H',J,rv,z⟩:=hs
    exact ⟨v,H',J.os,J.bare,J.base,J.hok,rv,z⟩
  | next=>
    obtain ⟨σ',H',J,z⟩:=hs
    exact ⟨.non,H',J.os,J.bare,J.base,J.hok,rfl,z⟩
  | brk=>obtain ⟨_,_,_,z⟩:=hs;exact False.elim z
  | cont=>obtain ⟨_,_,_,z⟩:=hs;exact False.elim z
theorem am6 {Y:Cx} {k:Nat} {f:Addr} {fd:FuncData} {ps:List Str} {sp:Addr × Obj->Sp} {x:Str} {q pos:Pos} {e:Expr} {es:List Expr} {t:TA} {p:Addr × Obj} (F:FnP Y.prog Y.w Y.K Y.mg Y.base k f fd ps sp) (hr:L2H.RoomH k Y.A) (hot:L2H.Hot1 Y.A p) (hp:p∈Y.pn) (hg:Gl Y x) (hm:Y.mg x=some (.ref f)) (hk:PySem.W.keepIn Y.K (.ref f)=true) (hb:Binds Y.K fd ps [])
    (ha:PA Y (e::es) t) (hdb:(x == ("__debug__":Str))=false:=by decide) (he:starEach (e::es) Y.env=(false,eval e Y.env)::starEach es Y.env:=by rfl) (hpl:(backTo pos (starEach es Y.env)).any (·.1)=false:=by rfl) :
    PE Y (.Call (.Name x q) (e::es) [] pos) (fun σ H Q=>t σ H fun vs H1=>sp p vs H1 Q E0):=by
  refine ⟨fun pins s σ H Q I h=>wpAny_Call_Name_kw (ld_glob I hg hm ?_ hdb)⟩
  refine PySem.W.callWith_K (h₀:=Y.base) I.ok.mod.kin hk (thn (ha.run pos pins s σ H _ I h) fun us s1 ⟨vs,H1,I1,r,q⟩=>⟨I1.kIn,?_⟩) he hpl
  have hl:(us++[]).length=ps.length:=by rw [List.append_nil,<- r.length];exact F.len _ _ _ _ _ q
  have hb2:=hb s1 us I1.kIn hl
  rw [List.append_nil] at hb2
  obtain ⟨g1,g2,g3,g4,g5⟩:=I1.pin p (List.mem_append_left _ hp)
  have pin:L2H.PinOk Y.stack H1 s1 p:=⟨g1,g2,fun z=>(List.mem_cons.mp (I1.stkSub p.1 z)).elim g3 g4,g5⟩
  refine wpAny_call (codeAny_mono (F.run Y.A Y.stack s1 H1 ⟨us,[]⟩ us vs Q E0 p hr hot pin I1.env0 hb2 r q) fun r s' hq=>?_)
  cases r with
  | error e=>
    obtain ⟨_,_,_,_,_,_,_,_,_,_,_,_,z⟩:=hq
    exact False.elim z
  | ok fl=>
    cases fl with
    | ret u=>exact I1.after hq
    | next=>exact False.elim hq
    | brk=>exact False.elim hq
    | cont=>exact False.elim hq
def fieldsOf {α:Type} (c:Str) (fs:List (Str × α)):Option (List α):=
  let g1:=fun (f:Str)=>(fs.lookup f).map fun v=>[v]
  if c∈(["InvalidRatio","InvalidNumber","InvalidName","InvalidLayer","InvalidPlace","InvalidPoint","InvalidForm","InvalidLimit"]:List Str) then g1 "given"
  else if c∈(["InvalidRow","InvalidFact","InvalidCommand"]:List Str) then g1 "at"
  else if c∈(["InvalidStep","UnlikeEnds"]:List Str) then g1 "path"
  else if c∈(["DuplicateName","UnknownName"]:List Str) then g1 "name"
  else if c∈(["InvalidText","UnknownScript"]:List Str) then g1 "word"
  else if c="InvalidTable" then g1 "layer"
  else if c="InvalidWay" then (match fs.lookup ("layer":Str),fs.lookup ("start":Str),fs.lookup ("goal":Str) with
    | some a,some b,some d=>some [a,b,d]
    | _,_,_=>none)
  else if c="Full" then g1 "limit"
  else if c="InvalidPage" then g1 "line"
  else if c="TooMany" then (match fs.lookup ("subject":Str),fs.lookup ("most":Str) with
    | some a,some b=>some [a,b]
    | _,_=>none)
  else some []
def errFields:List Str:=["code","given","at","path","name","word","layer","start","goal","limit","line","subject","most"]
structure ErrC (K:PySem.W.Frag) (cs:List Value) (C:Addr):Prop where
  x:XfC K C
  no:∀ f∈errFields,PySem.W.findIn K (.ref C) f=some none
  is:PySem.W.exmAny K (.ref C) cs=some true
def spFields (K:PySem.W.Frag):Addr × Obj->Sp:=fun p vs H Q _=>∃ C dx fs c xs,vs=[.ref p.1]/\PinX K p C dx/\(∀ f∈errFields,PySem.W.findIn K (.ref C) f=some none)/\H dx=some (.xd fs)/\fs.lookup ("code":Str)=some (.str c)/\fieldsOf c fs=some xs/\
  ∀ H' l,Ex H H'->H l=none->H' l=some (.tup xs)->Q (.ref l) H'
section
variable {K:PySem.W.Frag} {G G1:Hp} {so:So} {σ:L2.St} {H H1 H2:Hp} {sl s1:DSt}
theorem akS {P c':Addr} {q:Str} {ps:Array Value} (rep:Rep K G so σ H sl) (hm:(P,Kd.tab q)∈so) (hP:H P=some (.tbl ps)) (gr:Grown H H1 P c' q ps):∃ G1,Post K G so σ H sl H1 G1 sl:=by
  rcases gr with rfl | ⟨nC,l,k,rfl⟩
  · exact ⟨G,.refl rep⟩
  · have gC:G c'=none:=rep.h.ex.free nC
    have nPc:P≠c':=ne_of_none hP nC
    have at_:∀ b,b≠P->b≠c'->upd (upd H P (.tbl (ps++#[rawInt l,rawInt k,.ref c']))) c' (LamX.CodeO c' q) b=H b:=fun b z1 z2=>by rw [upd_ne z2,upd_ne z1]
    have nvP:∀ b,so.Nq b->b≠P:=fun b z y=>by
      obtain ⟨C,e⟩:=z _ (y ▸ hm)
      cases e
    have hr:HRep K (upd G c' (LamX.CodeO c' q)) so (upd (upd H P (.tbl (ps++#[rawInt l,rawInt k,.ref c']))) c' (LamX.CodeO c' q)):=by
      refine ⟨fun b o e=>?_,fun b kd e=>?_,rep.h.ok,ajv (aea rep.h.tp (by intro _ z;cases z))⟩
      · by_cases z:b=c'
        · subst z;rw [upd_same] at e ⊢;exact e
        · rw [upd_ne z] at e
          rw [at_ b (nvP b (So.Nt.q (rep.h.nsrc e))) z]
          exact rep.h.ex b o e
      · have old:=rep.h.vol b kd e
        have nb:b≠c':=fun z=>by subst z;exact old.there nC
        by_cases z:b=P
        · subst z
          obtain rfl:=rep.h.ok.uq _ _ _ e hm
          obtain ⟨gP,ps0,e1,e2,e3⟩:=old
          rw [hP] at e1;cases e1
          have eL:(ps++#[rawInt l,rawInt k,.ref c']).toList=ps.toList++[rawInt l,rawInt k,.ref c']:=by simp
          refine ⟨by rw [upd_ne nb];exact gP,_,by rw [upd_ne nb,upd_same],by rw [eL];exact PySem.TriplesOk_snoc _ _ _ _ e2,fun pos cv hc=>?_⟩
          rw [eL] at hc
          rcases LamX.among_app (pos:=⟨l,k,0,0⟩) _ e2 hc with y | y
          · obtain ⟨c0,y1,y2⟩:=e3 pos cv y
            exact ⟨c0,y1,Ex.new gC _ _ y2⟩
          · exact ⟨c',y,upd_same⟩
        · exact old.keep (Ex.new gC) (by rw [upd_ne nb];exact old.g) (at_ b z nb)
    have pv:PostV K G so H .non _ (upd G c' (LamX.CodeO c' q)) (.d .non):=⟨Ex.new gC,hr,fun b o e z=>by rw [at_ b (nvP b z) (ne_of_none e nC)];exact e,fun b n g z=>by rw [upd_ne (fun y=>by subst y;exact n nC)];exact g,.non,fun _ _ e=>(nomatch e),fun _ e=>(nomatch e)⟩
    exact ⟨_,(pv.slots rep).toPost⟩
theorem PostV.tupleX {l:Addr} {vs:List V} {ds:List D} (h:HRep K G so H) (e:Ex H H2) (n:H l=none) (t:H2 l=some (.tup vs)) (a:DAll K G vs ds):PostV K G so H (.ref l) H2 (tpUp G H2) (.d (.tup ds)):=
  ⟨ajw h e,h.grow e,fun b o q _=>e b o q,fun b q g _=>aiG h e q g,DOk.tup (SqT.of (by unfold tpUp;rw [t])) (a.mono (ajw h e)),fun _ o e=>(nomatch e),fun _ e=>(nomatch e)⟩
theorem ak3 {c:Str} {vs:List (Str × V)} {fs:List (Str × D)} {xs:List D} (h:FAll K G vs fs) (e:fieldsOf c fs=some xs):∃ xv,fieldsOf c vs=some xv/\DAll K G xv xs:=by
  have one:∀ {f:Str} {xs:List D},(fs.lookup f).map (fun v=>[v])=some xs->∃ xv,(vs.lookup f).map (fun v=>[v])=some xv/\DAll K G xv xs:=fun {f xs} z=>by
    cases q:fs.lookup f with
    | none=>rw [q] at z;cases z
    | some d=>
      rw [q] at z;cases z
      obtain ⟨v,h1,h2⟩:=h.look q
      exact ⟨[v],by rw [h1];rfl,.cons h2 .nil⟩
  unfold fieldsOf at e ⊢
  dsimp only at e ⊢
  split at e
  · rename_i z;rw [if_pos z];exact one e
  rename_i z;rw [if_neg z]
  split at e
  · rename_i z;rw [if_pos z];exact one e
  rename_i z;rw [if_neg z]
  split at e
  · rename_i z;rw [if_pos z];exact one e
  rename_i z;rw [if_neg z]
  split at e
  · rename_i z;rw [if_pos z];exact one e
  rename_i z;rw [if_neg z]
  split at e
  · rename_i z;rw [if_pos z];exact one e
  rename_i z;rw [if_neg z]
  split at e
  · rename_i z;rw [if_pos z];exact one e
  rename_i z;rw [if_neg z]
  split at e
  · rename_i z;rw [if_pos z]
    split at e
    · rename_i a b d q1 q2 q3
      cases e
      obtain ⟨v1,h1,k1⟩:=h.look q1
      obtain ⟨v2,h2,k2⟩:=h.look q2
      obtain ⟨v3,h3,k3⟩:=h.look q3
      exact ⟨[v1,v2,v3],by rw [h1,h2,h3],.cons k1 (.cons k2 (.cons k3 .nil))⟩
    · cases e
  rename_i z;rw [if_neg z]
  split at e
  · rename_i z;rw [if_pos z];exact one e
  rename_i z;rw [if_neg z]
  split at e
  · rename_i z;rw [if_pos z];exact one e
  rename_i z;rw [if_neg z]
  split at e
  · rename_i z;rw [if_pos z]
    split at e
    · rename_i a b q1 q2
      cases e
      obtain ⟨v1,h1,k1⟩:=h.look q1
      obtain ⟨v2,h2,k2⟩:=h.look q2
      exact ⟨[v1,v2],by rw [h1,h2],.cons k1 (.cons k2 .nil)⟩
    · cases e
  rename_i z;rw [if_neg z]
  cases e
  exact ⟨[],rfl,.nil⟩
end
theorem ak2 {α:Type} {c:Str} {fs:List (Str × α)} {xs:List α} (e:fieldsOf c fs=some xs):xs.length<=3:=by
  have one:∀ {f:Str} {xs:List α},(fs.lookup f).map (fun v=>[v])=some xs->xs.length<=3:=fun {f xs} z=>by
    cases q:fs.lookup f with
    | none=>rw [q] at z;cases z
    | some d=>rw [q] at z;cases z;simp
  unfold fieldsOf at e
  dsimp only at e
  split at e
  · exact one e
  split at e
  · exact one e
  split at e
  · exact one e
  split at e
  · exact one e
  split at e
  · exact one e
  split at e
  · exact one e
  split at e
  · split at e
    · cases e;simp
    · cases e
  split at e
  · exact one e
  split at e
  · exact one e
  split at e
  · split at e
    · cases e;simp
    · cases e
  cases e;simp
def TTask (K:PySem.W.Frag) (cs:List Value) (tl:XK->Hp->VK->Prop) (H:Hp) (Q:VK):Prop:=
  tl (fun cls d H'=>∃ C dx fs c xs,cls=.ref C/\d=some dx/\ErrC K cs C/\H' dx=some (.xd fs)/\fs.lookup ("code":Str)=some (V.str c)/\fieldsOf c fs=some xs/\∀ H2 l,Ex H' H2->H' l=none->H2 l=some (.tup (.str c::xs))->Q (.ref l) H2) H
    (fun v H'=>[V.str "",v].length<=sizeLine/\∀ l,H' l=none->Q (.ref l) (upd H' l (.tup [.str "",v])))
def AskTo (X:Cx) (Ng:List Str) (qg:Str) (sg:Scope) (g:Addr) (bg:List Stmt) (a q:Str) (TT:(XK->Hp->VK->Prop)->Hp->VK->Prop):Prop:=
  ∀ (cdg:Value) (f c':Addr) (s:Shared) (H:Hp) (Q:VK) (tl:XK->Hp->VK->Prop),
    (∀ (W:WX) (pn:List (Addr × Obj)) (xe:Value->Shared->Prop) (E:XK) (p1 p2:Pos),L2N.Takes ((gotC X Ng qg sg g cdg s H E0).tr pn xe) W->(∀ cls d (σ':L2.St) H',σ'.length=Ng.length->E cls d H'->W cls d σ' H')->
      PE ((gotC X Ng qg sg g cdg s H E0).tr pn xe) (.Call (.Name a p1) [] [] p2) (fun σZ HZ Q=>σZ[0]?=some (some (.ref f))/\HZ c'=some (LamX.CodeO c' q)/\tl E HZ Q))->
    H c'=some (LamX.CodeO c' q)->TT tl H Q->
    ∃ t,PSs (gotC X Ng qg sg g cdg s H E0) bg t/\t { nx:=fun _ H'=>Q .non H',rt:=Q } (L2.start Ng [.ref f]) H
def dAsk (K:PySem.W.Frag) (cs:List Value) (te:TD):TD:=fun sl Q _=>te sl (fun v s1=>match pubV v with
    | .d x=>Q (.d (.tup [.str "",x])) s1
    | _=>False)
  (fun cls fs s1=>∃ C c xs,cls=.ref C/\ErrC K cs C/\fs.lookup ("code":Str)=some (D.str c)/\fieldsOf c fs=some xs/\Q (.d (.tup (.str c::xs))) s1)
section
variable {X:Cx} {W:WX} {K:PySem.W.Frag} {cs:List Value} {x a:Str} {g c:Addr} {fdg:FuncData} {qg:Str} {pg:Arguments} {bg:List Stmt} {sg:Scope} {Ng xs:List Str} {params:Arguments} {body:Expr} {scope:Scope} {te:TD} {k:Nat} {p lpos pos:Pos}
theorem aqv (hg:Gl X x) (hm:X.mg x=some (.ref g)) (Fg:FunD X.K x qg pg bg sg [] [] g fdg) (Sg:FnScope Ng [a] sg) (hb:Binds X.K fdg [a] []) (hNg:Ng[0]?=some a) (hva:Vis sg a) (AK:AskTo X Ng qg sg g bg a (X.env.qual++"<lambda>") (TTask X.K cs))
    (hL:(c,He.tabOf X.K c,X.env.qual++"<lambda>")∈lamFns X.K) (TB:LamX.TabB X.base X.mg c (He.tabOf X.K c)) (hcode:X.env.code=.ref c) (hp:LamPar params xs) (L:LamN X.N X.env.scope scope xs) (hr:Room (k + 2) X.A) (hgd:X.A.guards=some [])
    (hbody:∀ (A:Around) (outer:List Env) (s:Shared) (H:Hp) (E:XK) (f c':Addr),Room k (A.deeper (LamX.lamEnv X scope s.heap.objs.size f c'))->A.guards=some []->DE (lamC X A outer s H E scope f c') (fun cls d _ H'=>E cls d H') body te)
    (hK:X.K=K:=by rfl) (hdb:(x == ("__debug__":Str))=false:=by decide) (hd:(a == ("__debug__":Str))=false:=by decide) (hcd:(a == ("__classdict__":Str))=false:=by decide) :
    DE X W (.Call (.Name x p) [.Lambda params body scope lpos] [] pos) (dAsk K cs te):=by
  subst hK
  refine ⟨fun pins s σ H R I h=>?_⟩
  obtain ⟨G,so,sl,Q,E,rep,q,hq,hx⟩:=h
  refine wpAny_Call_Name_kw (ld_glob I hg hm ?_ hdb)
  refine PySem.W.callWith_K (h₀:=X.base) I.ok.mod.kin Fg.kp ?_ (by rfl) (by rfl)
  show wpAny _ _ (spliced ((false,eval (.Lambda params body scope lpos) X.env)::backTo pos (starEach [] X.env))) _ _ s
  have hmem:=rep.h.ok.tb _ hL
  obtain ⟨gP,ps,hP,ht,ha⟩:TabOk G H (He.tabOf X.K c) (X.env.qual++"<lambda>"):=rep.h.vol _ _ hmem
  refine Calls.spliced_cons (ani hp I TB hcode hP ht (fun pos cv hc=>let ⟨c1,e1,e2⟩:=ha pos cv hc;⟨c1,e1,rep.h.ex _ _ e2⟩) (L.has I.ok) fun f c' H1 s' I1 gr la hco=>?_)
  obtain ⟨G1,post⟩:=akS rep hmem hP gr
  refine Calls.spliced_nil ⟨I1.kIn,?_⟩
  obtain ⟨oc,od,dV,kV,doc,pm,an,cdv,ct,osl,rfl,lk,hcdI,_,_⟩:=Fg.ex
  have e0:=I1.env0
  have hbd:=hb s' [.ref f] I1.kIn rfl
  have hkind:(([a].zip [Value.ref f]).all fun y=>sg.names.lookup y.1 == some .local || sg.names.lookup y.1 == some .cell)=true:=by
    rw [List.all_eq_true]
    rintro ⟨n,u⟩ hy
    rcases Sg.par n (List.of_mem_zip hy).1 with z | z
    · show (sg.names.lookup n == some .local || _)=true
      rw [z];rfl
    · show (sg.names.lookup n == some .local || sg.names.lookup n == some .cell)=true
      rw [z];rfl
  have TT:TTask X.K cs (fun E H' Q'=>up X.K (fun cls d _ H'=>E cls d H') te σ H' Q') H1 R:=by
    refine ⟨G1,so,sl,_,_,post.rep,q,fun v H2 G2 dv s2 p2 q2=>⟨by show 2<=sizeLine;decide,fun l nl=>?_⟩,fun cls d H2 G2 fs s2 p2 xd q2=>?_⟩
    · obtain ⟨G3,p3⟩:=p2.pub
      split at q2
      · rename_i y ey
        rw [ey] at p3
        have vx:DOk X.K G3 v y:=p3.val
        refine hq _ _ _ _ s2 (post.thenE (p3.toPost.thenV (.tuple p3.rep.h nl (.cons (.str "") (.cons vx .nil))))) q2
      · exact q2.elim
    · obtain ⟨C,c0,ys,rfl,ec,lc,fc,q3⟩:=q2
      cases d with
      | none=>
        have z:fs=[]:=xd
        subst z;cases lc
      | some dx=>
        obtain ⟨vs,hv,fa⟩:=xd
        obtain ⟨v0,l1,l2⟩:=fa.look lc
        cases l2
        obtain ⟨xv,f1,f2⟩:=ak3 fa fc
        refine ⟨C,dx,vs,c0,xv,rfl,rfl,ec,hv,l1,f1,fun H3 l ex nl tl=>?_⟩
        exact hq _ _ _ _ s2 (post.thenE (p2.thenV (PostV.tupleX p2.rep.h ex nl tl (.cons (.str c0) f2)))) q3
  have rc:codeAny (model X.prog X.w) X.A (.call (.ref g) ⟨[.ref f],[]⟩) (CR (L2N.CX X.prog X.w) X.stack X.prog X.w H1 s' R E0) s':=by
    refine Att.call_fn I1.kIn (e0.mod.nolimit.keeps fun b o e=>(e0.bs b o e).1) lk hcdI hr.depth hbd hkind (fun s2 x2=>?_) Sg.co Sg.gen Sg.kind
    have J:=inv_start (CX:=L2N.CX X.prog X.w) (E:=E0) (vs:=[.ref f]) Sg hr.hd e0 rfl (.cons rfl .nil) x2
    obtain ⟨t',pt,qt⟩:=AK cdv f c' s' H1 R (fun E H' Q'=>up X.K (fun cls d _ H'=>E cls d H') te σ H' Q') (fun W pn xe E p1 p2 tk hW=>apO (i:=0) (tb:=up X.K (fun cls d _ H'=>E cls d H') te) hp I1 L la tk hW (hr.deeper _) hgd (fun A outer s H hr2 hg2=>hbody A outer s H E f c' hr2 hg2) hNg hva hd hcd) hco TT
    refine wpAny_mono (pt.run [] s2 _ H1 _ J qt) (fun fl s3 hs=>?_) fun e s3 hs=>hs
    cases fl with
    | ret u=>
      obtain ⟨v,σ',H',J',rv,z⟩:=hs
      exact ⟨v,H',J'.os,J'.bare,J'.base,J'.hok,rv,z⟩
    | next=>
      obtain ⟨σ',H',J',z⟩:=hs
      exact ⟨.non,H',J'.os,J'.bare,J'.base,J'.hok,rfl,z⟩
    | brk=>obtain ⟨_,_,_,z⟩:=hs;exact False.elim z
    | cont=>obtain ⟨_,_,_,z⟩:=hs;exact False.elim z
  refine wpAny_call (codeAny_mono rc fun r s3 z=>?_)
  cases r with
  | error e=>
    obtain ⟨_,_,_,_,_,_,_,_,_,_,_,_,y⟩:=z
    exact False.elim y
  | ok fl=>
    cases fl with
    | ret u=>exact I1.after z
    | next=>exact False.elim z
    | brk=>exact False.elim z
    | cont=>exact False.elim z
end
abbrev PQ:=(DV->Prop)->XE'->Prop
theorem no_see {ds:List D} {pre:List DV} (h:∀ v∈pre,∀ o,v≠.see o) (i:Nat) (o:OO):(pre++ds.map DV.d)[i]?≠some (.see o):=fun z=>by
  have m:=List.mem_of_getElem? z
  rcases List.mem_append.mp m with m | m
  · exact h _ m o rfl
  · obtain ⟨x,_,e⟩:=List.mem_map.mp m
    cases e
section
variable {P:Program} {w:World} {K:PySem.W.Frag} {mg:Str->Option Value} {base:Heap} {x qual:Str} {params:Arguments} {body:List Stmt} {scope:Scope} {dvs:List V} {kws:List (Str × V)} {fa:Addr} {fd:FuncData} {N:List Str} {k:Nat} {t:TDS}
abbrev BodyD (P:Program) (w:World) (K:PySem.W.Frag) (mg:Str->Option Value) (base:Heap) (N:List Str) (qual:Str) (scope:Scope) (fa:Addr) (k:Nat) (body:List Stmt) (t:TDS):Prop:=
  ∀ (cdv:Value) (A:Around) (outer:List Env) (s:Shared) (H:Hp) (E:XK),Room k (A.deeper (envOfC qual scope s.heap.objs.size fa cdv))->(cxOf (L2N.CX P w) P w K mg base N qual scope fa cdv A outer s H E).A.guards=some []->
    DSs (cxOf (L2N.CX P w) P w K mg base N qual scope fa cdv A outer s H E) (fun cls d _ H'=>E cls d H') body t
abbrev endsF (Q:DV->Prop) (E:XE'):EndsD:={ nx:=fun _=>Q (.d .non),rt:=fun v _=>retQ Q v,bk:=fun _=>False,ct:=fun _=>False,xc:=fun cls fs _=>E cls fs }
def sr0 (f:PQ):SpD:=fun args Q E=>args=[.src]/\f Q E
theorem aqg {f:PQ} {ps:Str} (F:FunD K x qual params body scope dvs kws fa fd) (S:FnScope N [ps] scope) (hd:BodyD P w K mg base N qual scope fa k body t) (hr:∀ Q E,f Q E->t (endsF Q E) (startD N [.src])):FnG P w K mg base (k + 1) fa fd [ps] (sr0 f):=
  ad3 F S (by rintro _ Q E ⟨rfl,h⟩;rfl) (by rintro _ Q E ⟨rfl,h⟩;exact no_see (ds:=[]) (pre:=[.src]) (fun v h o=>by rw [List.mem_singleton.mp h];exact fun z=>by cases z)) hd (by rintro _ Q E ⟨rfl,h⟩;exact hr Q E h)
def sp1 (f:D->PQ):SpD:=fun args Q E=>∃ x0:D,args=[.d x0]/\f x0 Q E
theorem acD {f:D->PQ} {p0:Str} (F:FunD K x qual params body scope dvs kws fa fd) (S:FnScope N [p0] scope) (hd:BodyD P w K mg base N qual scope fa k body t) (hr:∀ x0 Q E,f x0 Q E->t (endsF Q E) (startD N [.d x0])):FnG P w K mg base (k + 1) fa fd [p0] (sp1 f):=
  ad3 F S (by rintro _ Q E ⟨x0,rfl,h⟩;rfl) (by rintro _ Q E ⟨x0,rfl,h⟩;exact no_see (ds:=[x0]) (pre:=[]) (fun _ h=>by cases h)) hd (by rintro _ Q E ⟨x0,rfl,h⟩;exact hr x0 Q E h)
def sr1 (f:D->PQ):SpD:=fun args Q E=>∃ x0:D,args=[.src,.d x0]/\f x0 Q E
theorem aqf {f:D->PQ} {ps:Str} {p0:Str} (F:FunD K x qual params body scope dvs kws fa fd) (S:FnScope N [ps,p0] scope) (hd:BodyD P w K mg base N qual scope fa k body t) (hr:∀ x0 Q E,f x0 Q E->t (endsF Q E) (startD N [.src,.d x0])):FnG P w K mg base (k + 1) fa fd [ps,p0] (sr1 f):=
  ad3 F S (by rintro _ Q E ⟨x0,rfl,h⟩;rfl) (by rintro _ Q E ⟨x0,rfl,h⟩;exact no_see (ds:=[x0]) (pre:=[.src]) (fun v h o=>by rw [List.mem_singleton.mp h];exact fun z=>by cases z)) hd (by rintro _ Q E ⟨x0,rfl,h⟩;exact hr x0 Q E h)
def sp2 (f:D->D->PQ):SpD:=fun args Q E=>∃ x0:D,∃ x1:D,args=[.d x0,.d x1]/\f x0 x1 Q E
theorem aem {f:D->D->PQ} {p0:Str} {p1:Str} (F:FunD K x qual params body scope dvs kws fa fd) (S:FnScope N [p0,p1] scope) (hd:BodyD P w K mg base N qual scope fa k body t) (hr:∀ x0 x1 Q E,f x0 x1 Q E->t (endsF Q E) (startD N [.d x0,.d x1])):FnG P w K mg base (k + 1) fa fd [p0,p1] (sp2 f):=
  ad3 F S (by rintro _ Q E ⟨x0,x1,rfl,h⟩;rfl) (by rintro _ Q E ⟨x0,x1,rfl,h⟩;exact no_see (ds:=[x0,x1]) (pre:=[]) (fun _ h=>by cases h)) hd (by rintro _ Q E ⟨x0,x1,rfl,h⟩;exact hr x0 x1 Q E h)
def sp3 (f:D->D->D->PQ):SpD:=fun args Q E=>∃ x0:D,∃ x1:D,∃ x2:D,args=[.d x0,.d x1,.d x2]/\f x0 x1 x2 Q E
theorem aqj {f:D->D->D->PQ} {p0:Str} {p1:Str} {p2:Str} (F:FunD K x qual params body scope dvs kws fa fd) (S:FnScope N [p0,p1,p2] scope) (hd:BodyD P w K mg base N qual scope fa k body t) (hr:∀ x0 x1 x2 Q E,f x0 x1 x2 Q E->t (endsF Q E) (startD N [.d x0,.d x1,.d x2])):FnG P w K mg base (k + 1) fa fd [p0,p1,p2] (sp3 f):=
  ad3 F S (by rintro _ Q E ⟨x0,x1,x2,rfl,h⟩;rfl) (by rintro _ Q E ⟨x0,x1,x2,rfl,h⟩;exact no_see (ds:=[x0,x1,x2]) (pre:=[]) (fun _ h=>by cases h)) hd (by rintro _ Q E ⟨x0,x1,x2,rfl,h⟩;exact hr x0 x1 x2 Q E h)
theorem apa {ps:List Str} {sp:Sp} (F:FunD K x qual params body scope dvs kws fa fd) (S:FnScope N ps scope) (len:∀ vs H Q E,sp vs H Q E->vs.length=ps.length)
    (hd:∀ (cdv:Value),fd.code=cdv->∀ (A:Around) (outer:List Env) (s:Shared) (H:Hp) (vs:List V) (Q:VK) (E:XK),Room k (A.deeper (envOfC qual scope s.heap.objs.size fa cdv))->(cxOf (L2N.CX P w) P w K mg base N qual scope fa cdv A outer s H E).A.guards=some []->sp vs H Q E->
      ∃ t,PSs (cxOf (L2N.CX P w) P w K mg base N qual scope fa cdv A outer s H E) body t/\t { nx:=fun _ H'=>Q .non H',rt:=Q } (L2.start N vs) H):FnR P w K mg base (k + 1) fa fd ps sp:=by
  obtain ⟨oc,od,dV,kV,doc,pm,an,cdv,ct,osl,e,lk,hcd,z1,z2⟩:=F.ex
  refine ⟨len,fun A outer s H args us vs Q E hroom hg e0 hb r hsp=>?_⟩
  have KX:K.In s.heap:=e0.mod.kin.keeps fun b o e=>(e0.bs b o e).1
  have lim:s.heap.NoLimit:=e0.mod.nolimit.keeps fun b o e=>(e0.bs b o e).1
  have hkind:((ps.zip us).all fun y=>scope.names.lookup y.1 == some .local || scope.names.lookup y.1 == some .cell)=true:=by
    rw [List.all_eq_true]
    rintro ⟨n,u⟩ hy
    rcases S.par n (List.of_mem_zip hy).1 with z | z
    · show (scope.names.lookup n == some .local || _)=true
      rw [z];rfl
    · show (scope.names.lookup n == some .local || scope.names.lookup n == some .cell)=true
      rw [z];rfl
  subst e
  refine Att.call_fn KX lim lk hcd hroom.depth hb hkind (fun s1 x=>?_) S.co S.gen S.kind
  have I:=inv_start (CX:=L2N.CX P w) (E:=E) S hroom.hd e0 (len _ _ _ _ hsp) r x
  obtain ⟨t,pt,qt⟩:=hd cdv rfl A outer s H vs Q E (hroom.deeper _) hg hsp
  refine wpAny_mono (pt.run [] s1 (L2.start N vs) H _ I qt) (fun fl s' hs=>?_) fun e s' hs=>hs
  cases fl with
  | ret u=>
    obtain ⟨v,σ',H',J,rv,z⟩:=hs
    exact ⟨v,H',J.os,J.bare,J.base,J.hok,rv,z⟩
  | next=>
    obtain ⟨σ',H',J,z⟩:=hs
    exact ⟨.non,H',J.os,J.bare,J.base,J.hok,rfl,z⟩
  | brk=>obtain ⟨_,_,_,z⟩:=hs;exact False.elim z
  | cont=>obtain ⟨_,_,_,z⟩:=hs;exact False.elim z
end
def lamNB (N:List Str) (sc scope:Scope) (xs:List Str):Bool:=
  decide (scope.kind=.function) && (!scope.isCoroutine && (!scope.isGenerator && ((scope.names.all fun y=>!decide (y.2=.cell) && ((!decide (y.2=.local) || !N.contains y.1) && (!decide (y.2=.free) || (decide (sc.names.lookup y.1=some .cell) || decide (sc.names.lookup y.1=some .free))))) && xs.all fun a=>decide (scope.names.lookup a=some .local))))
theorem alX {N:List Str} {sc scope:Scope} {xs:List Str} (h:lamNB N sc scope xs=true):LamN N sc scope xs:=by
  unfold lamNB at h
  simp only [Bool.and_eq_true,Bool.or_eq_true,Bool.not_eq_true',decide_eq_true_eq,decide_eq_false_iff_not,List.all_eq_true] at h
  obtain ⟨h1,h2,h3,h4,h5⟩:=h
  refine ⟨h1,h2,h3,fun y hy=>⟨(h4 y hy).1,fun e=>?_⟩,fun y hy e=>?_,h5⟩
  · rcases (h4 y hy).2.1 with z | z
    · exact absurd e z
    · intro m
      rw [<- Bool.not_eq_true,List.contains_iff_mem] at z
      exact z m
  · rcases (h4 y hy).2.2 with z | z
    · exact absurd e z
    · exact z
def isB:String->D->Bool
  | "int",.int _=>true
  | "int",.bl _=>true
  | "bool",.bl _=>true
  | "str",.str _=>true
  | "tuple",.tup _=>true
  | "tuple",.kt _=>true
  | "list",.lst _=>true
  | _,_=>false
def kinds:List String:=["int","bool","str","tuple","list"]
theorem al8 {T:String} (hT:T∈kinds) {d:D} {t:String} (h:tyD d=some t):kitB t T=some (isB T d):=by
  simp only [kinds,List.mem_cons,List.not_mem_nil,or_false] at hT
  rcases hT with rfl | rfl | rfl | rfl | rfl<;>cases d<;>simp [tyD] at h<;>subst h<;>first | (show kitB _ _=some true;decide +kernel) | (show kitB _ _=some false;decide +kernel)
theorem ak1 {Q:DV->Prop} {x:DV} {d:D} {T:String} (hx:x.dat=some d) (hk:kindD d=true) (hT:T∈kinds) (q:Q (.d (.bl (isB T d)))):isiR [x,.d (.raw (.ty T))] Q:=by
  obtain ⟨t,ht⟩:=Option.isSome_iff_exists.mp hk
  exact aqc hx ht (al8 hT ht) q
def isBs (Ts:List String) (d:D):Bool:=Ts.any fun T=>isB T d
theorem akw {d:D} {t:String} (h:tyD d=some t):∀ {Ts:List String},(∀ T∈Ts,T∈kinds)->kitBs t Ts=some (isBs Ts d)
  | [],_=>rfl
  | T::Ts,hT=>by
    unfold kitBs
    rw [al8 (hT T (List.mem_cons_self ..)) h,akw h fun z hz=>hT z (List.mem_cons_of_mem _ hz)]
    have e:isBs (T::Ts) d=(isB T d || isBs Ts d):=rfl
    rw [e]
    cases isB T d<;>rfl
theorem anX {Q:DV->Prop} {x:DV} {d:D} {ts:List D} {Ts:List String} (hx:x.dat=some d) (hk:kindD d=true) (h2:tysD ts=some Ts) (hT:∀ T∈Ts,T∈kinds) (q:Q (.d (.bl (isBs Ts d)))):isiTR [x,.d (.tup ts)] Q:=by
  obtain ⟨t,ht⟩:=Option.isSome_iff_exists.mp hk
  exact ap3 hx h2 ht (akw ht hT) q
def strsA:List Str->TA
  | []=>tNil
  | s::r=>tCons (tC (.str s)) (strsA r)
theorem aj8 {σ:L2.St} {H:Hp}:∀ (ss:List Str) {R:List V->Hp->Prop},R (ss.map V.str) H->strsA ss σ H R
  | [],_,h=>h
  | s::r,R,h=>aj8 (σ:=σ) r (R:=fun xs H2=>R (V.str s::xs) H2) h
theorem amf (c:Str):∀ ss:List Str,inV (.str c) (ss.map V.str)=decide (c∈ss)
  | []=>rfl
  | s::r=>by
    unfold inV
    rw [List.map_cons,List.any_cons]
    have ih:=amf c r
    unfold inV at ih
    rw [ih]
    show ((s == c) || decide (c∈r))=_
    by_cases e:s=c
    · subst e;simp
    · have e':¬ c=s:=fun z=>e z.symm
      have:(s == c)=false:=beq_eq_false_iff_ne.mpr e
      rw [this,Bool.false_or]
      simp [e']
section
variable {K:PySem.W.Frag} {p:Addr × Obj} {C dx:Addr} {fs:List (Str × V)} {c:Str} {σ:L2.St} {H:Hp}
theorem aoe {f:Str} {v:V} {Q:VK} (px:PinX K p C dx) (no:PySem.W.findIn K (.ref C) f=some none) (hd:H dx=some (.xd fs)) (hσ:σ[0]?=some (some (.ref p.1))) (l:fs.lookup f=some v) (q:Q v H):tXfP K p f (tVar 0) σ H Q:=
  ⟨.ref p.1,hσ,rfl,C,dx,fs,v,px,no,hd,l,q⟩
theorem t_in (ss:List Str) {R:Bool->Hp->Prop} (px:PinX K p C dx) (no:PySem.W.findIn K (.ref C) "code"=some none) (hd:H dx=some (.xd fs)) (hσ:σ[0]?=some (some (.ref p.1))) (lc:fs.lookup ("code":Str)=some (.str c)) (hl:ss.length<=1000)
    (h:∀ l,H l=none->R (decide (c∈ss)) (upd H l (.tup (ss.map V.str)))):tTest (tOp (rIn K false) (tXfP K p "code" (tVar 0)) (tTup (strsA ss))) σ H R:=by
  show tXfP K p "code" (tVar 0) σ H (fun x H1=>tTup (strsA ss) σ H1 fun y H2=>rIn K false x y H2 fun x H'=>∃ k,x=.bl k/\R k H')
  refine aoe px no hd hσ lc ?_
  refine aj8 ss ⟨by rw [List.length_map,sizeLine_eq];omega,fun l nl=>⟨l,ss.map V.str,rfl,.inr (SqT.of upd_same),rfl,?_,_,rfl,?_⟩⟩
  · rw [List.all_eq_true]
    intro v hv
    obtain ⟨s,_,rfl⟩:=List.mem_map.mp hv
    rfl
  · have e:(if false=true then !inV (.str c) (ss.map V.str) else inV (.str c) (ss.map V.str))=decide (c∈ss):=by rw [if_neg Bool.false_ne_true];exact amf c ss
    rw [e]
    exact h l nl
theorem t_eq (s:Str) {R:Bool->Hp->Prop} (px:PinX K p C dx) (no:PySem.W.findIn K (.ref C) "code"=some none) (hd:H dx=some (.xd fs)) (hσ:σ[0]?=some (some (.ref p.1))) (lc:fs.lookup ("code":Str)=some (.str c)) (h:R (decide (c=s)) H) :
    tTest (tOp rEq (tXfP K p "code" (tVar 0)) (tC (.str s))) σ H R:=by
  show tXfP K p "code" (tVar 0) σ H (fun x H1=>rEq x (.str s) H1 fun x H'=>∃ k,x=.bl k/\R k H')
  refine aoe px no hd hσ lc ⟨rfl,_,rfl,?_⟩
  rw [decS];exact h
end
abbrev XTxt:=Arguments × List Stmt × Scope
structure XSpec where
  name:Str
  base:Nat
  flds:List Str
  text:XTxt
def xBase:Nat->String × String × String × List Value
  | 0=>("ValueError","ValueError.__new__","ValueError.__init__",[.type "ValueError",.type "Exception",.type "BaseException",.type "object"])
  | 1=>("LookupError","LookupError.__new__","LookupError.__init__",[.type "LookupError",.type "Exception",.type "BaseException",.type "object"])
  | _=>("IndexError","IndexError.__new__","IndexError.__init__",[.type "IndexError",.type "LookupError",.type "Exception",.type "BaseException",.type "object"])
theorem amL (n:Nat):ExBase (xBase n).1 (xBase n).2.1 (xBase n).2.2.1 (xBase n).2.2.2:=by
  match n with
  | 0=>exact ⟨PySem.F.excBase_ValueError,PySem.W.kxs_ValueError,PySem.F.store_ValueError⟩
  | 1=>exact ⟨PySem.F.excBase_LookupError,PySem.W.kxs_LookupError,PySem.F.store_LookupError⟩
  | n + 2=>exact ⟨PySem.F.excBase_IndexError,PySem.W.kxs_IndexError,PySem.F.store_IndexError⟩
def initAt (K:PySem.W.Frag) (C:Addr):Addr:=match PySem.W.findIn K (.ref C) "__init__" with
  | some (some (.ref f))=>f
  | _=>0
def exObs (K:PySem.W.Frag) (C:Addr):Option XTxt:=match K.lookup (initAt K C) with
  | some ⟨_,_,.func fd,_⟩=>(match fd.body with
    | .stmts b=>some (fd.params,b,fd.scope)
    | _=>none)
  | _=>none
def nonV:Value->Bool
  | .none=>true
  | _=>false
theorem alH {v:Value} (h:nonV v=true):v=.none:=by cases v<;>first | rfl | cases h
def fnShape (K:PySem.W.Frag) (file:Str) (fI C:Addr):Bool:=match K.lookup fI with
  | some ⟨_,_,.func fd,_⟩=>decide (fd.globals=mainGlobals) && (decide (fd.builtins=builtinsNs) && (nonV fd.defaults && (nonV fd.kwdefaults && (match fd.closure,fd.code with
    | [(x,cc)],.ref cda=>decide (x="__class__") && (PySem.W.codeIn K (.ref cda) fd.qualname && ((match K.lookup cda with
        | some ⟨_,_,.fields vs,_⟩=>(match (vs[2]? : Option Value) with
          | some (.str f _)=>decide (f=file)
          | _=>false)
        | _=>false) && (match K.lookup cc with
        | some ⟨_,_,.cell (some (.ref D)),_⟩=>decide (D=C)
        | _=>false)))
    | _,_=>false))))
  | _=>false
theorem amT {K:PySem.W.Frag} {file:Str} {C:Addr} {params:Arguments} {body:List Stmt} {scope:Scope} (h:fnShape K file (initAt K C) C=true) (e:exObs K C=some (params,body,scope)) :
    ∃ (oc:Value) (od:Option Addr) (osl:Array (Option Value)) (name qual:Str) (doc pm:Value) (an:Option Addr) (cda cc:Addr) (ct:Value) (vs:Array Value) (tf:Tok) (ccl cl:Value) (cdd cld:Option Addr) (ccs csl:Array (Option Value)),
    K.lookup (initAt K C)=some ⟨oc,od,.func (PySem.W.ksFn name qual params body scope .none .none doc pm an (.ref cda) ct cc),osl⟩/\PySem.W.codeIn K (.ref cda) qual=true/\K.lookup cda=some ⟨ccl,cdd,.fields vs,ccs⟩/\vs[2]?=some (.str file tf)/\K.lookup cc=some ⟨cl,cld,.cell (some (.ref C)),csl⟩:=by
  unfold fnShape at h
  unfold exObs at e
  split at h
  · rename_i oc od fd osl lk
    rw [lk] at e
    obtain ⟨nm,ql,pr,bd,sc,gl,cl,df,kd,doc,pm,an,cd,ct,bn⟩:=fd
    dsimp only at h e
    obtain ⟨h1,h⟩:=He.ba h
    obtain ⟨h2,h⟩:=He.ba h
    obtain ⟨h3,h⟩:=He.ba h
    obtain ⟨h4,h⟩:=He.ba h
    split at h
    · rename_i x cc cda
      obtain ⟨h5,h⟩:=He.ba h
      obtain ⟨h6,h⟩:=He.ba h
      obtain ⟨h7,h8⟩:=He.ba h
      split at e
      · rename_i b
        cases e
        have e1:=of_decide_eq_true h1
        have e2:=of_decide_eq_true h2
        have e5:=of_decide_eq_true h5
        have e3:=alH h3
        have e4:=alH h4
        subst e1 e2 e3 e4 e5
        split at h7
        · rename_i ccl cdd vs ccs lkc
          split at h7
          · rename_i f tf hv
            have e7:=of_decide_eq_true h7
            subst e7
            split at h8
            · rename_i cl cld D csl lcc
              have e8:=of_decide_eq_true h8
              subst e8
              exact ⟨_,_,_,_,_,_,_,_,_,_,_,_,_,_,_,_,_,_,_,lk,h6,lkc,hv,lcc⟩
            · cases h8
          · cases h7
        · cases h7
      · cases e
    · cases h
  · cases h
def csA (K:PySem.W.Frag):List Value:=[.ref (He.ga K "MilesError"),.ref (He.ga K "Missing"),.ref (He.ga K "NothingLeft")]
def xB (K:PySem.W.Frag) (file:Str) (ask:Bool) (e:XSpec):Bool:=
  let C:=He.ga K e.name
  let b:=xBase e.base
  decide (PySem.W.findIn K (.ref C) "__setattr__"=some (some (.builtin "object.__setattr__"))) &&
  (PySem.W.excOver K C b.2.2.2 &&
  (PySem.W.hasDictIn K C &&
  (PySem.W.excInitIn K C b.2.2.2 b.2.1 &&
  (decide (PySem.W.findIn K (.ref C) "__init__"=some (some (.ref (initAt K C)))) &&
  (decide (PySem.W.typeIn K (.ref (initAt K C))=some (.type "function")) &&
  (decide (PySem.W.ks_superIn K C C "__init__"=some (some (.builtin b.2.2.1))) &&
  (decide (PySem.W.subIn K (.ref C) (.type b.1)=some true) &&
  (decide (PySem.W.mroIn K C (.ref C)=some true) &&
  (decide (PySem.W.subIn K (.ref C) (.type "BaseException")=some true) &&
  (decide (PySem.W.typeIn K (.ref C)=some (.type "type")) &&
  (PySem.W.keepIn K (.ref C) &&
  (decide (PySem.W.nsIn K cStatics "thirdparty.any"=some none) &&
  (fnShape K file (initAt K C) C &&
  ((e.flds.all fun f=>decide (PySem.W.takerIn K C f=some none)) &&
  (!ask || (xfB K C &&
  ((errFields.all fun f=>decide (PySem.W.findIn K (.ref C) f=some none)) && decide (PySem.W.exmAny K (.ref C) (csA K)=some true))))))))))))))))))
structure XOk' (K:PySem.W.Frag) (file:Str) (ask:Bool) (e:XSpec):Prop where
  k:ExK K file (He.ga K e.name) (initAt K (He.ga K e.name)) e.text.1 e.text.2.1 e.text.2.2 (xBase e.base).1 (xBase e.base).2.1 (xBase e.base).2.2.1 (xBase e.base).2.2.2
  t:∀ f∈e.flds,PySem.W.takerIn K (He.ga K e.name) f=some none
  r:ask=true->ErrC K (csA K) (He.ga K e.name)
theorem xB_ok {K:PySem.W.Frag} {file:Str} {ask:Bool} {e:XSpec} (h:xB K file ask e=true) (ht:exObs K (He.ga K e.name)=some e.text):XOk' K file ask e:=by
  unfold xB at h
  dsimp only at h
  obtain ⟨h1,h⟩:=He.ba h
  obtain ⟨h2,h⟩:=He.ba h
  obtain ⟨h3,h⟩:=He.ba h
  obtain ⟨h4,h⟩:=He.ba h
  obtain ⟨h5,h⟩:=He.ba h
  obtain ⟨h6,h⟩:=He.ba h
  obtain ⟨h7,h⟩:=He.ba h
  obtain ⟨h8,h⟩:=He.ba h
  obtain ⟨h9,h⟩:=He.ba h
  obtain ⟨h10,h⟩:=He.ba h
  obtain ⟨h11,h⟩:=He.ba h
  obtain ⟨h12,h⟩:=He.ba h
  obtain ⟨h13,h⟩:=He.ba h
  obtain ⟨h14,h⟩:=He.ba h
  obtain ⟨h15,h16⟩:=He.ba h
  refine ⟨⟨⟨of_decide_eq_true h1,h2,h3⟩,h4,of_decide_eq_true h5,of_decide_eq_true h6,of_decide_eq_true h7,of_decide_eq_true h8,of_decide_eq_true h9,of_decide_eq_true h10,of_decide_eq_true h11,h12,of_decide_eq_true h13,amT h14 ht⟩,fun f hf=>of_decide_eq_true (List.all_eq_true.mp h15 f hf),fun ha=>?_⟩
  rw [ha] at h16
  obtain ⟨z1,z⟩:=He.ba (show (xfB K (He.ga K e.name) && _)=true from h16)
  obtain ⟨z2,z3⟩:=He.ba z
  exact ⟨xfB_ok z1,fun f hf=>of_decide_eq_true (List.all_eq_true.mp z2 f hf),of_decide_eq_true z3⟩
theorem XOk'.cls {K:PySem.W.Frag} {file:Str} {ask:Bool} {e:XSpec} {P:Program} {mg:Str->Option Value} {self:Str} {ps:List Str} {fs:List (Str × (Str ⊕ Str))} (h:XOk' K file ask e) (T:ExT e.text.2.1 e.text.1 e.text.2.2 self ps fs) (hf:((P.main.file:Str) == file)=true) (ht:(P.main.scope.names.lookup ("super":Str)).isSome=false)
    (hb:∀ (e':Addr) (us:List Value),us.length=ps.length->∀ (name qual:Str) (doc pm:Value) (an:Option Addr) (cda ct:Value) (cc:Addr),bindArgs (PySem.W.ksFn name qual e.text.1 e.text.2.1 e.text.2.2 .none .none doc pm an cda ct cc) ⟨.ref e'::us,[]⟩=pure ((self::ps).zip (.ref e'::us)))
    (hfl:∀ f∈fs,f.1∈e.flds) (ne:∀ vs,xdV ps fs vs≠[]) (su:mg ("super":Str)=none) (ln:ps.length<=1000):XCls P K mg (He.ga K e.name) ps fs:=
  ⟨⟨file,_,_,_,_,_,_,_,_,self,amL _,h.k,T,hf,ht,hb⟩,fun f hf=>h.t f.1 (hfl f hf),ne,su,h.k.kC,ln⟩
structure LY extends LX where
  file:Str
  ask:Bool
  ex:List XSpec
abbrev AlY:Type:=Bool × He.AlD × List (Option XTxt)
def LY.ok (l:LY) (g:Addr->Option Obj) (K:PySem.W.Frag):Bool:=l.toLX.ok g K && l.ex.all fun e=>xB K l.file l.ask e
def valY (l:LY) (fn:List He.DefD):AlY:=(true,He.valD fn,l.ex.map fun e=>some e.text)
structure SaysY (l:LY) (fa:List He.Fa) (fn:List He.DefD) (h:Heap) (K:PySem.W.Frag):Prop extends SaysX l.toLX fa fn h K where
  x:∀ e∈l.ex,XOk' K l.file l.ask e
def wtK (b:Nat):Key->Nat
  | .inl _=>b + 1
  | .inr z=>10 * z.length + 2
def FineK (b:Nat):Key->Prop
  | .inl i=>i.natAbs < 10 ^ b
  | .inr z=>∀ c∈z.cps.toList,c < 0x110000
def wtKs (b:Nat):List Key->Nat
  | []=>0
  | k::r=>wtK b k + 2 + wtKs b r
mutual
def wt (b:Nat):D->Nat
  | .int _=>b + 1
  | .str z=>10 * z.length + 2
  | .lst ds=>wts b ds + 3
  | .tup ds=>wts b ds + 3
  | .kt ks=>wtKs b ks + 3
  | _=>5
def wts (b:Nat):List D->Nat
  | []=>0
  | d::r=>wt b d + 2 + wts b r
end
mutual
def dep:D->Nat
  | .lst ds=>deps ds + 1
  | .tup ds=>deps ds + 1
  | .kt _=>1
  | _=>0
def deps:List D->Nat
  | []=>0
  | d::r=>max (dep d) (deps r)
end
mutual
def Fine (b:Nat):D->Prop
  | .int i=>i.natAbs < 10 ^ b
  | .str z=>∀ c∈z.cps.toList,c < 0x110000
  | .lst ds=>Fines b ds
  | .tup ds=>Fines b ds
  | .non=>True
  | .bl _=>True
  | .ins _ _=>False
  | .dk _=>False
  | .dt _=>False
  | .any=>False
  | .raw _=>False
  | .kt ks=>∀ k∈ks,FineK b k
def Fines (b:Nat):List D->Prop
  | []=>True
  | d::r=>Fine b d/\Fines b r
end
theorem Shw.intN {i:Int} {b:Nat} (hk:0 < b) (h2:b<=500) (h:i.natAbs < 10 ^ b):Shw 0 (b + 1) (.int i) (.int i):=by
  refine ⟨rfl,by simp [PyData.canLay0],by simp [PyData.depth],?_,?_⟩
  · simp only [PyData.showable]
    refine decide_eq_true ?_
    rcases Nat.eq_zero_or_pos i.natAbs with z | z
    · rw [z];decide
    refine (Nat.log2_lt (by omega)).mpr ?_
    refine Nat.lt_of_lt_of_le h (Nat.le_trans (Nat.pow_le_pow_right (by decide) h2) ?_)
    decide +kernel
  · simp only [PyData.shown]
    rcases Int.lt_or_le i 0 with z | z
    · have e:i=-((i.natAbs:Nat):Int):=by omega
      have h0:(toString (i.natAbs:Int):Str).length<=b:=toString_length_le (by omega) hk (by
        have:((i.natAbs:Nat):Int) < ((10 ^ b:Nat):Int):=Int.ofNat_lt.mpr h
        simpa using this)
      rw [e]
      generalize hm:i.natAbs=m at *
      cases m with
      | zero=>omega
      | succ m=>
        have e2:(toString (-((m + 1:Nat):Int)):String)="-"++toString ((m + 1:Nat):Int):=rfl
        have e3:((toString (-((m + 1:Nat):Int)):String):Str).length=((toString ((m + 1:Nat):Int):String):Str).length + 1:=by
          rw [e2,PySem.ofString_length,PySem.ofString_length,String.length_append]
          have:("-":String).length=1:=rfl
          omega
        rw [e3]
        omega
    · have:=toString_length_le z hk (v:=i) (by
        have:((i.natAbs:Nat):Int) < ((10 ^ b:Nat):Int):=Int.ofNat_lt.mpr h
        rw [Int.natAbs_of_nonneg z] at this
        simpa using this)
      omega
structure ShwS (n L:Nat) (ds:List D) (ps:List PyData):Prop where
  py:D.pyAll ds=some ps
  lay:PyData.canLayAll0 ps=true
  dp:PyData.depthAll ps<=n
  sw:PyData.showableAll ps=true
  ln:((PyData.shownAll ps).map fun t=>t.length + 2).sum<=L
theorem afN:∀ (ts:List Str) (k:Nat) (acc:Str),(PySem.textFrom k acc ts).length<=acc.length + (ts.map fun t=>t.length + 2).sum
  | [],k,acc=>by show acc.length<=_;simp
  | t::r,k,acc=>by
    have h1:=afN r (k + 1) (acc++(if k > 0 then ", " else "":String)++t)
    have e:(acc++(if k > 0 then ", " else "":String)++t).length=acc.length + (if k > 0 then 2 else 0) + t.length:=by
      rw [strLen_append,strLen_append]
      split<;>rfl
    rw [e] at h1
    show (PySem.textFrom (k + 1) (acc++(if k > 0 then ", " else "":String)++t) r).length<=_
    rw [List.map_cons,List.sum_cons]
    have h3:(if k > 0 then 2 else 0)<=2:=by split<;>omega
    omega
theorem aky:∀ ts:List Str,(Str.join ", " ts).length<=(ts.map fun t=>t.length + 2).sum
  | []=>by show 0<=_;omega
  | [x]=>by show x.length<=x.length + 2 + 0;omega
  | x::y::r=>by
    have h1:=aky (y::r)
    show (x++", "++Str.join ", " (y::r)).length<=_
    rw [strLen_append,strLen_append,List.map_cons,List.sum_cons]
    have e2:((", ":String):Str).length=2:=rfl
    omega
theorem ShwS.lst {n L:Nat} {ds:List D} {ps:List PyData} (h:ShwS n L ds ps):Shw (n + 1) (L + 3) (.lst ds) (.list ps):=by
  refine ⟨by unfold D.py;rw [h.py];rfl,by unfold PyData.canLay0;exact h.lay,by unfold PyData.depth;have:=h.dp;omega,by unfold PyData.showable;exact h.sw,?_⟩
  unfold PyData.shown listText
  rw [strLen_append]
  have:=afN (PyData.shownAll ps) 0 "["
  have e1:(("[":String):Str).length=1:=rfl
  have e2:(("]":String):Str).length=1:=rfl
  have:=h.ln
  omega
theorem ShwS.tup {n L:Nat} {ds:List D} {ps:List PyData} (h:ShwS n L ds ps):Shw (n + 1) (L + 3) (.tup ds) (.tuple ps):=by
  refine ⟨by unfold D.py;rw [h.py];rfl,by unfold PyData.canLay0;exact h.lay,by unfold PyData.depth;have:=h.dp;omega,by unfold PyData.showable;exact h.sw,?_⟩
  unfold PyData.shown tupleText
  rw [strLen_append,strLen_append]
  have e1:(("(":String):Str).length=1:=rfl
  have e2:((if (PyData.shownAll ps).length == 1 then ",)" else ")":String):Str).length<=2:=by split<;>decide
  have e3:=aky (PyData.shownAll ps)
  have:=h.ln
  omega
section
variable {b:Nat} (hb:0 < b) (h5:b<=500)
include hb h5
theorem ajk:∀ ks:List Key,(∀ k∈ks,FineK b k)->ShwS 0 (wtKs b ks) (ks.map keyD) (ks.map keyPy)
  | [],_=>⟨by simp [D.pyAll],by simp [PyData.canLayAll0],by simp [PyData.depthAll],by simp [PyData.showableAll],by simp [PyData.shownAll]⟩
  | k::r,h=>by
    have e1:Shw 0 (wtK b k) (keyD k) (keyPy k):=by
      have hk:=h k (List.mem_cons_self ..)
      cases k with
      | inl i=>exact Shw.intN hb h5 hk
      | inr z=>exact Shw.str hk (Nat.le_refl _)
    have e2:=ajk r fun x hx=>h x (List.mem_cons_of_mem _ hx)
    refine ⟨?_,?_,?_,?_,?_⟩
    · rw [List.map_cons,List.map_cons];unfold D.pyAll;rw [e1.py,e2.py]
    · rw [List.map_cons];unfold PyData.canLayAll0;rw [e1.lay,e2.lay];rfl
    · rw [List.map_cons];unfold PyData.depthAll
      have:=e1.dp;have:=e2.dp
      omega
    · rw [List.map_cons];unfold PyData.showableAll;rw [e1.sw,e2.sw];rfl
    · rw [List.map_cons];unfold PyData.shownAll;rw [wtKs,List.map_cons,List.sum_cons]
      have:=e1.ln;have:=e2.ln
      omega
mutual
theorem af7:∀ d:D,Fine b d->∃ p,Shw (dep d) (wt b d) d p
  | .non,_=>⟨_,Shw.non.mono (Nat.le_refl _) (by show 4<=5;omega)⟩
  | .bl x,_=>⟨_,Shw.bl x⟩
  | .int i,h=>⟨_,Shw.intN hb h5 (by simpa only [Fine] using h)⟩
  | .str z,h=>⟨_,Shw.str (by simpa only [Fine] using h) (Nat.le_refl _)⟩
  | .lst ds,h=>let ⟨ps,e⟩:=agQ ds (by simpa only [Fine] using h);⟨_,(by simpa only [dep,wt] using e.lst)⟩
  | .tup ds,h=>let ⟨ps,e⟩:=agQ ds (by simpa only [Fine] using h);⟨_,(by simpa only [dep,wt] using e.tup)⟩
  | .ins _ _,h=>by simp [Fine] at h
  | .dk _,h=>by simp [Fine] at h
  | .dt _,h=>by simp [Fine] at h
  | .any,h=>by simp [Fine] at h
  | .raw _,h=>by simp [Fine] at h
  | .kt ks,h=>by
    have h':∀ k∈ks,FineK b k:=by simpa only [Fine] using h
    have z:=(ajk hb h5 ks h').tup
    exact ⟨_,⟨by rw [D.py],z.lay,by rw [dep];exact z.dp,z.sw,by rw [wt];exact z.ln⟩⟩
theorem agQ:∀ ds:List D,Fines b ds->∃ ps,ShwS (deps ds) (wts b ds) ds ps
  | [],_=>⟨[],by simp [D.pyAll],by simp [PyData.canLayAll0],by simp [PyData.depthAll],by simp [PyData.showableAll],by simp [PyData.shownAll]⟩
  | d::r,h=>by
    rw [Fines] at h
    obtain ⟨p,e1⟩:=af7 d h.1
    obtain ⟨ps,e2⟩:=agQ r h.2
    refine ⟨p::ps,?_,?_,?_,?_,?_⟩
    · unfold D.pyAll;rw [e1.py,e2.py]
    · unfold PyData.canLayAll0;rw [e1.lay,e2.lay];rfl
    · unfold PyData.depthAll;rw [deps]
      have:=e1.dp;have:=e2.dp
      omega
    · unfold PyData.showableAll;rw [e1.sw,e2.sw];rfl
    · unfold PyData.shownAll;rw [wts,List.map_cons,List.sum_cons]
      have:=e1.ln;have:=e2.ln
      omega
end
theorem anp {ds:List D} (h:Fines b ds) (h1:deps ds<=60) (h2:wts b ds<=16000000):∃ p,Shows (.lst ds) p:=by
  obtain ⟨p,e⟩:=af7 hb h5 (.lst ds) (by simpa only [Fine] using h)
  refine ⟨p,e.shows (.inl ⟨_,rfl⟩) (by rw [dep];omega) (by rw [wt];have:szl=16777216:=rfl;omega)⟩
theorem ano {ds:List D} (h:Fines b ds) (h1:deps ds<=60) (h2:wts b ds<=16000000):∃ p,Shows (.tup ds) p:=by
  obtain ⟨p,e⟩:=af7 hb h5 (.tup ds) (by simpa only [Fine] using h)
  refine ⟨p,e.shows (.inr ⟨_,rfl⟩) (by rw [dep];omega) (by rw [wt];have:szl=16777216:=rfl;omega)⟩
end
theorem fcons {b:Nat} {d:D} {r:List D} (h:Fine b d) (t:Fines b r):Fines b (d::r):=by rw [Fines];exact ⟨h,t⟩
theorem fint {b:Nat} {i:Int} (h:i.natAbs < 10 ^ b):Fine b (.int i):=by rw [Fine];exact h
theorem fstr {b:Nat} {z:Str} (h:∀ c∈z.cps.toList,c < 0x110000:=by decide +kernel):Fine b (.str z):=by rw [Fine];exact h
theorem fnon {b:Nat}:Fine b .non:=by simp [Fine]
theorem fbl {b:Nat} {x:Bool}:Fine b (.bl x):=by simp [Fine]
theorem ftup {b:Nat} {ds:List D} (h:Fines b ds):Fine b (.tup ds):=by rw [Fine];exact h
theorem flst {b:Nat} {ds:List D} (h:Fines b ds):Fine b (.lst ds):=by rw [Fine];exact h
theorem am2 (b:Nat) {Q:DV->Prop} {E:XE'} {ds es:List D} (he:ds=es) (h:Fines b es) (q:Q (.d (.bl true))) (h1:deps es<=60:=by first | decide | exact Nat.le_of_ble_eq_true rfl) (h2:wts b es<=16000000:=by first | decide | exact Nat.le_of_ble_eq_true rfl) (hb:0 < b:=by decide) (h5:b<=500:=by decide):spSame [.d (.lst ds),.d (.lst es)] Q E:=by
  subst he
  obtain ⟨p,s⟩:=anp hb h5 h h1 h2
  exact aiT s q
theorem am1 (b:Nat) {Q:DV->Prop} {E:XE'} {ds es:List D} (he:ds=es) (h:Fines b es) (q:Q (.d (.bl true))) (h1:deps es<=60:=by first | decide | exact Nat.le_of_ble_eq_true rfl) (h2:wts b es<=16000000:=by first | decide | exact Nat.le_of_ble_eq_true rfl) (hb:0 < b:=by decide) (h5:b<=500:=by decide):spSame [.d (.tup ds),.d (.tup es)] Q E:=by
  subst he
  obtain ⟨p,s⟩:=ano hb h5 h h1 h2
  exact aiT s q
def kinds6:List String:=["NoneType","bool","int","str","list","tuple"]
def numB (K:PySem.W.Frag) (C:Addr):Bool:=(match PySem.W.clsIn K C with
  | some cd=>(match cd.mro with
    | x::_=>decide (x=.ref C)
    | []=>false)
  | none=>false) && (decide (PySem.W.findIn K (.ref C) "__rmul__"=some none) && decide (PySem.W.findIn K (.ref C) "__radd__"=some none))
structure CInst (K:PySem.W.Frag) (C:Addr):Prop where
  cl:Cls K C
  gc:PySem.W.findIn K (.ref C) "__class__"=some (some (.builtin "object.__class__"))
  gs:PySem.W.specialIn K (.builtin "object.__class__") "__get__"=some (some (.builtin "getset_descriptor.__get__"))
  gt:PySem.W.takesIn K (.builtin "object.__class__")=some true
  mo:PySem.W.mroIn K C (.type "object")=some true
  own:PySem.W.kitOne K (.ref C) (.ref C)=some true
  no:∀ t∈kinds6,PySem.W.kitOne K (.type t) (.ref C)=some false
  ty:∀ t∈kinds6,PySem.W.kitOne K (.ref C) (.type t)=some false
  sub:∀ t∈kinds6,PySem.W.subIn K (.type t) (.ref C)=some false
  ne:PySem.W.findIn K (.ref C) "__ne__"=some (some (.builtin "object.__ne__"))
  nu:numB K C=true
def cB (K:PySem.W.Frag) (C:Addr):Bool:=numB K C && (
  decide (PySem.W.plainGet K C Str.empty=true) && (PySem.W.hasDictIn K C && (PySem.W.plainOver K C && (decide (PySem.W.findIn K (.ref C) "__setattr__"=some (some (.builtin "object.__setattr__"))) &&
  (decide (PySem.W.findIn K (.ref C) "__class__"=some (some (.builtin "object.__class__"))) &&
  (decide (PySem.W.specialIn K (.builtin "object.__class__") "__get__"=some (some (.builtin "getset_descriptor.__get__"))) &&
  (decide (PySem.W.takesIn K (.builtin "object.__class__")=some true) &&
  (decide (PySem.W.mroIn K C (.type "object")=some true) &&
  (decide (PySem.W.kitOne K (.ref C) (.ref C)=some true) &&
  ((kinds6.all fun t=>decide (PySem.W.kitOne K (.type t) (.ref C)=some false)) &&
  ((kinds6.all fun t=>decide (PySem.W.kitOne K (.ref C) (.type t)=some false)) &&
  ((kinds6.all fun t=>decide (PySem.W.subIn K (.type t) (.ref C)=some false)) &&
  decide (PySem.W.findIn K (.ref C) "__ne__"=some (some (.builtin "object.__ne__")))))))))))))))
theorem cB_ok {K:PySem.W.Frag} {C:Addr} (h:cB K C=true):CInst K C:=by
  unfold cB at h
  obtain ⟨h0,h⟩:=He.ba h
  obtain ⟨h1,h⟩:=He.ba h
  obtain ⟨h2,h⟩:=He.ba h
  obtain ⟨h3,h⟩:=He.ba h
  obtain ⟨h4,h⟩:=He.ba h
  obtain ⟨h5,h⟩:=He.ba h
  obtain ⟨h6,h⟩:=He.ba h
  obtain ⟨h7,h⟩:=He.ba h
  obtain ⟨h8,h⟩:=He.ba h
  obtain ⟨h9,h⟩:=He.ba h
  obtain ⟨h10,h⟩:=He.ba h
  obtain ⟨h11,h⟩:=He.ba h
  obtain ⟨h12,h13⟩:=He.ba h
  exact ⟨⟨of_decide_eq_true h1,h2,h3,of_decide_eq_true h4⟩,of_decide_eq_true h5,of_decide_eq_true h6,of_decide_eq_true h7,of_decide_eq_true h8,of_decide_eq_true h9,fun t ht=>of_decide_eq_true (List.all_eq_true.mp h10 t ht),
    fun t ht=>of_decide_eq_true (List.all_eq_true.mp h11 t ht),fun t ht=>of_decide_eq_true (List.all_eq_true.mp h12 t ht),of_decide_eq_true h13,h0⟩
section
variable {K:PySem.W.Frag} {G H:Hp} {so:So} {v:V} {dv:DV} {C:Addr} {fs:List (Str × D)}
theorem anI (h:HRep K G so H) (w:VOk K G so H v dv) (c:CInst K C) (e:dv.inst=some (C,fs)):TyX K H v (.ref C):=by
  obtain ⟨a,dx,vs,rfl,h1,_⟩:=w.inst h e
  exact .base (.ins h1 c.cl c.gc c.gs c.gt c.mo)
end
theorem alb {d:D} {t:String} (h:tyD d=some t):t∈kinds6:=by
  cases d<;>cases h<;>decide
@[irreducible] def isiCR (K:PySem.W.Frag) (C:Addr):List DV->(DV->Prop)->Prop
  | [v,.d (.raw (.ref D))],Q=>D=C/\CInst K C/\match v.inst with
    | some (B,_)=>B=C/\Q (.d (.bl true))
    | none=>match v.dat with
      | some d=>(tyD d).isSome=true/\Q (.d (.bl false))
      | none=>False
  | _,_=>False
theorem amY {K:PySem.W.Frag} {C:Addr}:CallSem K (rIsi K) (isiCR K C):=by
  intro G so H xs dxs Q R h w q k
  unfold isiCR at q
  split at q
  · obtain ⟨v,v',rfl,w1,w2,_⟩:=w.v2
    cases w2
    obtain ⟨rfl,c,q⟩:=q
    split at q
    · rename_i B fs e
      obtain ⟨rfl,q⟩:=q
      exact ⟨_,_,_,_,true,rfl,.own _,anI h w1 c e,c.own,k _ H G _ (.dat h (.bl _)) q⟩
    · split at q
      · rename_i d e
        obtain ⟨et,q⟩:=q
        obtain ⟨t,et⟩:=Option.isSome_iff_exists.mp et
        exact ⟨_,_,_,_,false,rfl,.own _,amR h w1 e et,c.no t (alb et),k _ H G _ (.dat h (.bl _)) q⟩
      · exact q.elim
  · exact q.elim
theorem aoT {K:PySem.W.Frag} {C:Addr} {v:DV} {fs:List (Str × D)} {Q:DV->Prop} (c:CInst K C) (h:v.inst=some (C,fs)) (q:Q (.d (.bl true))):isiCR K C [v,.d (.raw (.ref C))] Q:=by
  unfold isiCR
  refine ⟨rfl,c,?_⟩
  rw [h]
  exact ⟨rfl,q⟩
theorem aoU {K:PySem.W.Frag} {C:Addr} {v:DV} {d:D} {Q:DV->Prop} (c:CInst K C) (h0:v.inst=none) (h:v.dat=some d) (ht:(tyD d).isSome=true) (q:Q (.d (.bl false))):isiCR K C [v,.d (.raw (.ref C))] Q:=by
  unfold isiCR
  refine ⟨rfl,c,?_⟩
  rw [h0,h]
  exact ⟨ht,q⟩
section
variable {X:Cx} {k:Nat} {f C:Addr} {fd:FuncData} {ps:List Str} {sp:SpD}
theorem aeU {pins:List (Addr × Obj)} {σ:L2.St} {H:Hp} {s:Shared} {Q:VK} {A:Around} {us:List Value} {vs:List V} (F:FnG X.prog X.w X.K X.mg X.base k f fd ps sp) (hr:Room k A) (hg:A.guards=some []) (hf:A.frames=X.A.frames) (hb:Binds X.K fd ps [])
    (I:Inv X pins σ H s) (r:Vals vs us) (q:upSp X.K sp vs H Q fun _ _ _=>False) :
    wpAny (model X.prog X.w) A (call (.ref f) us) (EP X pins σ Q) X.xe s:=by
  have e:=I.env0
  have e0:Env0 X.prog X.w X.K X.mg X.base A X.stack s H:=⟨by rw [hf];exact e.frames,e.mod,e.bs,e.bsz,e.funs,e.frf,e.hok,e.bare⟩
  have hl:us.length=ps.length:=by
    obtain ⟨G,so,as,QD,ED,h,w,z,_⟩:=q
    rw [<- r.length,w.length]
    exact F.len _ _ _ z
  refine wpAny_call (codeAny_mono (F.run A X.stack s H ⟨us,[]⟩ us vs Q (fun _ _ _=>False) hr hg e0 (by
    have:=hb s us I.kIn (by simpa using hl)
    simpa using this) r q) fun r s' hz=>?_)
  cases r with
  | error e=>
    obtain ⟨a,B,H',cls,d,_,_,_,_,_,_,_,z⟩:=hz
    exact z.elim
  | ok fl=>
    cases fl with
    | ret u=>exact I.after hz
    | next=>exact False.elim hz
    | brk=>exact False.elim hz
    | cont=>exact False.elim hz
def rReprI (K:PySem.W.Frag) (C:Addr) (sp:SpD):List V->Hp->VK->Prop:=fun xs H Q=>∃ a dx fs,xs=[.ref a]/\H a=some (.ins C dx fs)/\upSp K sp xs H (fun v H'=>∃ z,v=.str z/\Q v H') fun _ _ _=>False
theorem ak6 (hm:Meth X.K C "__repr__" f) (F:FnG X.prog X.w X.K X.mg X.base k f fd ps sp) (hr:Room (k + 1) X.A) (hg:X.A.guards=some []) (hb:Binds X.K fd ps []):CallR X (.builtin "repr") (rReprI X.K C sp):=by
  intro pins s σ H xs us Q I r h
  obtain ⟨a,dx,fs,rfl,e,q⟩:=h
  obtain ⟨u,rfl,ru⟩:∃ u,us=[u]/\RelV (.ref a) u:=by
    cases r with
    | cons ru t=>cases t;exact ⟨_,rfl,ru⟩
  cases ru
  obtain ⟨mA,J,_⟩:=ins_get I.hok e
  obtain ⟨od,J,_⟩:=J.look
  obtain ⟨m,hF⟩:=I.fr
  refine PySem.W.repr_K (h₀:=X.base) hr.in1.units0 hF I.ok.mod.kin J hm.at_ hm.fn ?_
  refine wpAny_mono (aeU (A:=X.A.in1) F hr.in1 hg rfl hb I r q) (fun v s' hv=>?_) fun _ _ x=>x
  obtain ⟨y,H',I',ry,z,rfl,hq⟩:=hv
  obtain ⟨t,rfl⟩:∃ t,v=.str z t:=ry
  exact ⟨.str z,H',I',⟨t,rfl⟩,hq⟩
@[irreducible] def reprIR (C:Addr) (sp:SpD):List DV->(DV->Prop)->Prop
  | [.d (.ins D fs)],Q=>D=C/\sp [.d (.ins D fs)] (fun v=>match v with
    | .d (.str z)=>Q (.d (.str z))
    | _=>False) fun _ _=>False
  | _,_=>False
theorem alj {K:PySem.W.Frag}:CallSem K (rReprI K C sp) (reprIR C sp):=by
  intro G so H xs dxs Q R h w q hk
  unfold reprIR at q
  split at q
  · rename_i D fs
    obtain ⟨v,rfl,w1⟩:∃ v,xs=[v]/\VOk K G so H v (.d (.ins D fs)):=by
      cases w with
      | cons w1 _ t=>cases t;exact ⟨_,rfl,w1⟩
    obtain ⟨rfl,q⟩:=q
    obtain ⟨a,dx,vs,rfl,e,_⟩:=w1.inst h rfl
    refine ⟨a,dx,vs,rfl,e,G,so,_,_,_,h,w,q,fun v H' G' dv p z=>?_,fun _ _ _ _ _ _ _ z=>z⟩
    split at z
    · rename_i y
      have:v=.str y:=by
        have:=p.val
        cases this;rfl
      exact ⟨y,this,hk v H' G' _ p z⟩
    · exact z.elim
  · exact q.elim
theorem aoP {fs:List (Str × D)} {Q:DV->Prop} (h:sp [.d (.ins C fs)] (fun v=>match v with
    | .d (.str z)=>Q (.d (.str z))
    | _=>False) fun _ _=>False):reprIR C sp [.d (.ins C fs)] Q:=by
  unfold reprIR
  exact ⟨rfl,h⟩
def rLenI (K:PySem.W.Frag) (C:Addr) (sp:SpD):List V->Hp->VK->Prop:=fun xs H Q=>∃ a dx fs,xs=[.ref a]/\H a=some (.ins C dx fs)/\upSp K sp xs H (fun v H'=>∃ n:Int,v=.int n/\(0<=n/\n < 2 ^ 63)/\Q v H') fun _ _ _=>False
theorem amH (hm:Meth X.K C "__len__" f) (F:FnG X.prog X.w X.K X.mg X.base k f fd ps sp) (hr:Room (k + 1) X.A) (hg:X.A.guards=some []) (hb:Binds X.K fd ps []):CallR X (.builtin "len") (rLenI X.K C sp):=by
  intro pins s σ H xs us Q I r h
  obtain ⟨a,dx,fs,rfl,e,q⟩:=h
  obtain ⟨u,rfl,ru⟩:∃ u,us=[u]/\RelV (.ref a) u:=by
    cases r with
    | cons ru t=>cases t;exact ⟨_,rfl,ru⟩
  cases ru
  obtain ⟨mA,J,_⟩:=ins_get I.hok e
  obtain ⟨od,J,_⟩:=J.look
  obtain ⟨m,hF⟩:=I.fr
  refine PySem.W.len_K (h₀:=X.base) hF I.ok.mod.kin J hm.at_ hm.fn ?_
  refine wpAny_mono (aeU (A:=X.A.in1) F hr.in1 hg rfl hb I r q) (fun v s' hv=>?_) fun _ _ x=>x
  obtain ⟨y,H',I',ry,n,rfl,hn,hq⟩:=hv
  obtain ⟨t,rfl⟩:∃ t,v=.int n t:=ry
  exact ⟨hn,.int n,H',I'.tok _,⟨_,rfl⟩,hq⟩
@[irreducible] def lenIR (C:Addr) (sp:SpD):List DV->(DV->Prop)->Prop
  | [.d (.ins D fs)],Q=>D=C/\sp [.d (.ins D fs)] (fun v=>match v with
    | .d (.int n)=>(0<=n/\n < 2 ^ 63)/\Q (.d (.int n))
    | _=>False) fun _ _=>False
  | _,_=>False
theorem amX {K:PySem.W.Frag}:CallSem K (rLenI K C sp) (lenIR C sp):=by
  intro G so H xs dxs Q R h w q hk
  unfold lenIR at q
  split at q
  · rename_i D fs
    obtain ⟨v,rfl,w1⟩:∃ v,xs=[v]/\VOk K G so H v (.d (.ins D fs)):=by
      cases w with
      | cons w1 _ t=>cases t;exact ⟨_,rfl,w1⟩
    obtain ⟨rfl,q⟩:=q
    obtain ⟨a,dx,vs,rfl,e,_⟩:=w1.inst h rfl
    refine ⟨a,dx,vs,rfl,e,G,so,_,_,_,h,w,q,fun v H' G' dv p z=>?_,fun _ _ _ _ _ _ _ z=>z⟩
    split at z
    · rename_i y
      have:v=.int y:=by
        have:=p.val
        cases this;rfl
      exact ⟨y,this,z.1,hk v H' G' _ p z.2⟩
    · exact z.elim
  · exact q.elim
theorem ap2 {fs:List (Str × D)} {Q:DV->Prop} (h:sp [.d (.ins C fs)] (fun v=>match v with
    | .d (.int n)=>(0<=n/\n < 2 ^ 63)/\Q (.d (.int n))
    | _=>False) fun _ _=>False):lenIR C sp [.d (.ins C fs)] Q:=by
  unfold lenIR
  exact ⟨rfl,h⟩
end
section
variable {M:Model} {prog:Program} {w:World} {A:Around} {E:Value->Shared->Prop} {s:Shared} {K:PySem.W.Frag} {x C f L:Addr} {ox:Obj} {od:Option Obj} {h₀:Heap} {m:Str->Option Value} {b tb:Value}
theorem and {Q:Fin->Shared->Prop} (hu:A.units < cLine) (X:K.In s.heap) (I:PySem.W.InstAt s.heap x ox C od) (hs:PySem.W.findIn K (.ref C) "__eq__"=some (some (.ref f))) (hf:PySem.W.isFn K (.ref f)=true)
    (h:wpAny M A (call (.ref f) [.ref x,b]) (fun v s'=>∃ r,v=.bool r/\Q (.done (.ret (.bool (!r)))) s') E s):wpAny M A (Builtin.«object.__ne__» ⟨[.ref x,b],[]⟩) Q E s:=by
  have g:wpAny M A (callSpecialIfBound? (.ref x) "__eq__" [b]) (fun o s'=>∃ r,o=some (.bool r)/\Q (.done (.ret (.bool (!r)))) s') E s:=
    PySem.W.ifBound_K (name:="__eq__") X I hs hf (wpAny_mono h (fun v s' ⟨r,e,q⟩=>⟨r,by rw [e],q⟩) fun _ _ z=>z)
  unfold Builtin.«object.__ne__»
  repeat (first
    | with_reducible refine wpAny_cRoomFor hu ?_
    | (refine wpAny_bind (m := callSpecialIfBound? (.ref x) (Str.ofString "__eq__") [b]) (wpAny_mono g (fun o s' z => by
          obtain ⟨r,rfl,q⟩:=z
          repeat (first | exact q | exact wpAny_pure q | exact wpAny_truthy_bool q | (refine wpAny_bind (m:=truthy (.bool _)) (wpAny_truthy_bool ?_)) | wp_step)) fun _ _ z=>z))
    | wp_step)
theorem ane {args:List Value} {Q:Option Value->Shared->Prop} (X:K.In s.heap) (I:PySem.W.InstAt s.heap x ox C od) (hs:PySem.W.findIn K (.ref C) "__ne__"=some (some (.builtin "object.__ne__")))
    (h:wpAny M A (call (.builtin "object.__ne__") (.ref x::args)) (fun v=>Q (some v)) E s):wpAny M A (callSpecialIfBound? (.ref x) "__ne__" args) Q E s:=by
  simp only [callSpecialIfBound?,bindSpecialIfBound?]
  refine wpAny_holding (wpAny_bind (wpAny_bind (wpAny_bind (I.type.here ((PySem.W.looks_findIn X hs).here ?_)))))
  have fin:wpAny M A (call (.builtin "object.__ne__") ([.ref x]++args) >>= fun v=>pure (some v)) Q E s:=wpAny_bind (wpAny_mono h (fun v s' q=>wpAny_pure q) fun _ _ z=>z)
  refine wpAny_bind (wpAny_askSetting (wpAny_ite ?_))
  split
  · exact wpAny_bind (wpAny_of_eq (F.cmp_object.ne.bind _) (wpAny_pure fin))
  · exact wpAny_tryCatch (wpAny_bind (wpAny_of_eq (F.cmp_object.ne.bind _) (wpAny_pure fin)))
theorem aot {Q:Value->Shared->Prop} (hu:A.units < cLine) (hu1:A.in1.units < cLine) (X:K.In s.heap) (I:PySem.W.InstAt s.heap x ox C od) (hb:PySem.W.Looks (model prog w) s.heap (typeOf b) tb) (hn:PySem.W.notFirst K C tb=true) (hm:PySem.W.mroIn K C (.type "object")=some true)
    (hne:PySem.W.findIn K (.ref C) "__ne__"=some (some (.builtin "object.__ne__"))) (hs:PySem.W.findIn K (.ref C) "__eq__"=some (some (.ref f))) (hf:PySem.W.isFn K (.ref f)=true)
    (h:wpAny (model prog w) A.in1 (call (.ref f) [.ref x,b]) (fun v s'=>∃ r,v=.bool r/\Q (.bool (!r)) s') E s):wpAny (model prog w) A (richCompare .NotEq (.ref x) b) Q E s:=by
  have one:wpAny (model prog w) A (tryCompare (.ref x) "__ne__" b) (fun r s'=>∃ v,r=some v/\Q v s') E s:=by
    unfold tryCompare
    refine wpAny_bind (ane X I hne (wpAny_call (codeAny_call_builtin F.cmp_object.ne.plain F.cmpEntry_ne (PySem.W.check_slot F.cmpKind_ne F.cmpSplit_ne (I.type.andThen (PySem.W.looks_mroIn X hm)) (F.cmpArgs_ne _ _) (and hu1 X I hs hf (wpAny_mono h (fun v s' z=>?_) fun _ _ z=>z))))))
    obtain ⟨r,rfl,q⟩:=z
    exact ⟨r,rfl,wpAny_pure ⟨_,rfl,q⟩⟩
  unfold richCompare
  simp only [oneThing_ref]
  refine wpAny_holding (wpAny_bind (wpAny_cRoomFor hu (wpAny_bind (I.type.here (wpAny_bind (hb.here ?_))))))
  have last:∀ {o:Option Value} {s':Shared},(∃ v,o=some v/\Q v s')->∃ v,o=some v/\Q v s':=fun z=>z
  split
  · rename_i q
    have e:PySem.W.subIn K tb (.ref C)=some false:=by
      rcases Bool.or_eq_true_iff.mp hn with e | e
      · rw [beq_iff_eq.mp e] at q;simp at q
      · exact beq_iff_eq.mp e
    refine wpAny_bind ((PySem.W.looks_subIn X e).here ?_)
    simp only [Bool.false_eq_true,if_false]
    refine wpAny_bind (wpAny_mono one (fun r s' z=>?_) fun _ _ z=>z)
    obtain ⟨v,rfl,q⟩:=last z
    exact wpAny_pure q
  · refine wpAny_bind (wpAny_pure ?_)
    simp only [Bool.false_eq_true,if_false]
    refine wpAny_bind (wpAny_mono one (fun r s' z=>?_) fun _ _ z=>z)
    obtain ⟨v,rfl,q⟩:=last z
    exact wpAny_pure q
end
section
variable {X:Cx} {k:Nat} {f C:Addr} {fd:FuncData} {ps:List Str} {sp:SpD}
def rCmpI (K:PySem.W.Frag) (C:Addr) (sp:SpD) (n:Bool):R2:=fun x y H Q=>∃ a dx fs t,x=.ref a/\H a=some (.ins C dx fs)/\TyX K H y t/\PySem.W.notFirst K C t=true/\upSp K sp [x,y] H (fun v H'=>∃ b,v=.bl b/\Q (.bl (if n then !b else b)) H') fun _ _ _=>False
theorem ahC (hm:Meth X.K C "__eq__" f) (F:FnG X.prog X.w X.K X.mg X.base k f fd ps sp) (hr:Room (k + 1) X.A) (hg:X.A.guards=some []) (hb:Binds X.K fd ps []):OpR X (compareOp .Eq) (rCmpI X.K C sp false):=by
  intro pins s σ H x y v u Q I rx ry h
  obtain ⟨a,dx,fs,t,rfl,e,ty,nf,q⟩:=h
  cases rx
  obtain ⟨mA,J,_⟩:=ins_get I.hok e
  obtain ⟨od,J,_⟩:=J.look
  obtain ⟨m,hF⟩:=I.fr
  obtain ⟨P,Z,p,_⟩:=kit_of I ry ty
  refine PySem.W.cmp_K (op:=.Eq) (h₀:=X.base) hr.units0 hF I.ok.mod.kin J (Z.ty _ _ I.kIn p) nf hm.at_ hm.fn ?_
  refine wpAny_mono (aeU (A:=X.A) F (hr.mono (by omega)) hg rfl hb I (vs:=[.ref a,y]) (.cons rfl (.cons ry .nil)) q) (fun v s' hv=>?_) fun _ _ x=>x
  obtain ⟨z,H',I',rz,b,rfl,hq⟩:=hv
  obtain rfl:v=.bool b:=rz
  exact ⟨.bl b,H',I',rfl,hq⟩
theorem anT (c:CInst X.K C) (hm:Meth X.K C "__eq__" f) (F:FnG X.prog X.w X.K X.mg X.base k f fd ps sp) (hr:Room (k + 1) X.A) (hg:X.A.guards=some []) (hb:Binds X.K fd ps []):OpR X (compareOp .NotEq) (rCmpI X.K C sp true):=by
  intro pins s σ H x y v u Q I rx ry h
  obtain ⟨a,dx,fs,t,rfl,e,ty,nf,q⟩:=h
  cases rx
  obtain ⟨mA,J,_⟩:=ins_get I.hok e
  obtain ⟨od,J,_⟩:=J.look
  obtain ⟨P,Z,p,_⟩:=kit_of I ry ty
  refine aot hr.units0 hr.in1.units0 I.kIn J (Z.ty _ _ I.kIn p) nf c.mo c.ne hm.at_ hm.fn ?_
  refine wpAny_mono (aeU (A:=X.A.in1) F hr.in1 hg rfl hb I (vs:=[.ref a,y]) (.cons rfl (.cons ry .nil)) q) (fun v s' hv=>?_) fun _ _ x=>x
  obtain ⟨z,H',I',rz,b,rfl,hq⟩:=hv
  obtain rfl:v=.bool b:=rz
  exact ⟨b,rfl,.bl (!b),H',I',rfl,hq⟩
@[irreducible] def cmpIR (K:PySem.W.Frag) (C:Addr) (sp:SpD) (n:Bool) (x y:DV) (Q:DV->Prop):Prop:=match x,y with
  | .d (.ins D fs),.d e=>D=C/\CInst K C/\((∃ gs,e=.ins C gs)\/(tyD e).isSome=true)/\sp [.d (.ins D fs),.d e] (fun v=>match v with
    | .d (.bl b)=>Q (.d (.bl (if n then !b else b)))
    | _=>False) fun _ _=>False
  | _,_=>False
theorem adu {K:PySem.W.Frag} {n:Bool}:OpSem K (rCmpI K C sp n) (cmpIR K C sp n):=by
  intro G so H x y dx dy Q R h wx wy q hk
  unfold cmpIR at q
  split at q
  · rename_i D fs e
    obtain ⟨rfl,c,ho,q⟩:=q
    obtain ⟨a,dd,vs,rfl,ea,_⟩:=wx.inst h rfl
    have ty:∃ t,TyX K H y t/\PySem.W.notFirst K D t=true:=by
      rcases ho with ⟨gs,rfl⟩ | ho
      · exact ⟨_,anI h wy c rfl,by simp [PySem.W.notFirst]⟩
      · obtain ⟨t,et⟩:=Option.isSome_iff_exists.mp ho
        refine ⟨_,amR h wy rfl et,?_⟩
        unfold PySem.W.notFirst
        rw [c.sub t (alb et)]
        simp
    obtain ⟨t,t1,t2⟩:=ty
    refine ⟨a,dd,vs,t,rfl,ea,t1,t2,G,so,_,_,_,h,.cons wx (fun _ e=>(nomatch e)) (.cons wy (fun _ e=>(nomatch e)) .nil),q,fun v H' G' dv p z=>?_,fun _ _ _ _ _ _ _ z=>z⟩
    split at z
    · rename_i b
      have:v=.bl b:=by
        have:=p.val
        cases this;rfl
      subst this
      refine ⟨b,rfl,hk _ H' G' (.d (.bl (if n then !b else b))) ⟨p.ex,p.hrep,p.keep,p.frm,.bl _,fun _ _ e=>(nomatch e),fun _ e=>(nomatch e)⟩ z⟩
    · exact z.elim
  · exact q.elim
theorem afQ {K:PySem.W.Frag} {n:Bool} {fs:List (Str × D)} {e:D} {Q:DV->Prop} (c:CInst K C) (ho:(∃ gs,e=.ins C gs)\/(tyD e).isSome=true) (h:sp [.d (.ins C fs),.d e] (fun v=>match v with
    | .d (.bl b)=>Q (.d (.bl (if n then !b else b)))
    | _=>False) fun _ _=>False):cmpIR K C sp n (.d (.ins C fs)) (.d e) Q:=by
  unfold cmpIR
  exact ⟨rfl,c,ho,h⟩
end
section
variable {X:Cx} {W:WX} {e:Expr} {es:List Expr} {te:TD} {tr:TDA} {p pos:Pos}
@[irreducible] def fmtR (x:DV) (Q:DV->Prop):Prop:=match x with
  | .d (.str z)=>z.length<=szl/\Q (.d (.str z))
  | .d (.int i)=>i.natAbs.log2 < 1920/\Q (.d (.str (toString i)))
  | _=>False
theorem amy (he:DE X W e te):DE X W (.FormattedValue e (-1) none pos) (dUn fmtR te):=by
  refine aaD (pe_fmt he) fun σ H R ⟨G,so,sl,Q,E,rep,q,hq,hx⟩=>?_
  refine ⟨G,so,sl,_,E,rep,q,fun x H1 G1 dx s1 p1 h1=>?_,hx⟩
  unfold fmtR at h1
  split at h1
  · have w:=p1.val
    cases w
    exact .inl ⟨_,rfl,by rw [<- acM];exact h1.1,hq _ H1 G1 _ s1 (p1.toPost.thenV (.dat p1.rep.h (.str _))) h1.2⟩
  · have w:=p1.val
    cases w
    exact .inr ⟨_,rfl,h1.1,hq _ H1 G1 _ s1 (p1.toPost.thenV (.dat p1.rep.h (.str _))) h1.2⟩
  · exact h1.elim
theorem ap6 {z:Str} {Q:DV->Prop} (h:z.length<=szl) (q:Q (.d (.str z))):fmtR (.d (.str z)) Q:=by unfold fmtR;exact ⟨h,q⟩
theorem anY {i:Int} {Q:DV->Prop} (h:i.natAbs.log2 < 1920) (q:Q (.d (.str (toString i)))):fmtR (.d (.int i)) Q:=by unfold fmtR;exact ⟨h,q⟩
inductive DJ (X:Cx) (W:WX):List Expr->List TD->Prop where
  | nil:DJ X W [] []
  | cons {e:Expr} {t:TD} {es:List Expr} {ts:List TD} (h:DE X W e t) (r:DJ X W es ts):DJ X W (e::es) (t::ts)
theorem DJ.pj {es:List Expr} {ts:List TD} (h:DJ X W es ts):PJ X es (ts.map (up X.K W)):=by
  induction h with
  | nil=>exact .nil
  | cons h r ih=>exact .cons h ih
def dJs:List TD->Str->DSt->(DV->DSt->Prop)->XP->Prop
  | [],acc,sl,Q,_=>Q (.d (.str acc)) sl
  | t::ts,acc,sl,Q,E=>t sl (fun x s1=>match x with
    | .d (.str y)=>(acc++y).length<=szl/\dJs ts (acc++y) s1 Q E
    | _=>False) E
theorem apz {σ:L2.St}:∀ (ts:List TD) (acc:Str) {H:Hp} {R:VK} {G:Hp} {so:So} {sl:DSt} {Q:DV->DSt->Prop} {E:XP},Rep X.K G so σ H sl->dJs ts acc sl Q E->(∀ v H' G' dv sl',PostE X.K G so σ H sl v H' G' dv sl'->Q dv sl'->R v H')->XOk X.K W G so σ H sl E->
    tJs (ts.map (up X.K W)) acc σ H fun out H1=>R (.str out) H1
  | [],acc,H,R,G,so,sl,Q,E,rep,q,hq,_=>hq _ H G _ sl ((Post.refl rep).thenV (.dat rep.h (.str acc))) q
  | t::ts,acc,H,R,G,so,sl,Q,E,rep,q,hq,hx=>by
    refine ⟨G,so,sl,_,E,rep,q,fun x H1 G1 dx s1 p1 h1=>?_,hx⟩
    split at h1
    · rename_i y
      have w:=p1.val
      cases w
      exact ⟨y,rfl,by rw [<- acM];exact h1.1,apz ts (acc++y) p1.rep h1.2 (fun v H' G' dv sl' p2 z=>hq v H' G' dv sl' (p1.toPost.thenE p2) z) (hx.step p1.toPost)⟩
    · exact h1.elim
theorem apo {v1 v2:Expr} {rest:List Expr} {ts:List TD} (h:DJ X W (v1::v2::rest) ts):DE X W (.JoinedStr (v1::v2::rest) pos) (dJs ts Str.empty):=
  aaD (pe_joined h.pj) fun σ H R ⟨G,so,sl,Q,E,rep,q,hq,hx⟩=>apz ts Str.empty rep q hq hx
end
section
variable {X:Cx} {W:WX} {k:Nat} {C p g:Addr} {f:Str} {fd:FuncData} {ps:List Str} {sp:SpD} {e:Expr} {te:TD} {pos:Pos}
theorem getprop {pins:List (Addr × Obj)} {σ:L2.St} {H:Hp} {s:Shared} {Q:VK} {b:Bool} {a dx:Addr} {fs:List (Str × V)} (I:Inv X pins σ H s) (ea:H a=some (.ins C dx fs)) (c:Cls X.K C) (hp:PropOf X.K C f p g) (F:FnG X.prog X.w X.K X.mg X.base k g fd ps sp) (hr:Room (k + 1) X.A) (hg:X.A.guards=some [])
    (hb:Binds X.K fd ps []) (h:upSp X.K sp [.ref a] H Q fun _ _ _=>False):wpAny (model X.prog X.w) X.A (getAttr (.ref a) f b) (EP X pins σ Q) X.xe s:=by
  obtain ⟨mA,O,_,_,_,_⟩:=ins_get I.hok ea
  obtain ⟨od,J,_⟩:=O.look
  obtain ⟨rest,hrec⟩:=hp.rec_
  have I1:=I.tok (s.toks + 1)
  have hl:[Value.ref a].length=ps.length:=by
    obtain ⟨G,so,as,QD,ED,hh,w,z,_⟩:=h
    have:=F.len _ _ _ z
    rw [<- this,<- w.length];rfl
  have hc:(PySem.W.clsIn X.K C).isSome=true:=by
    obtain ⟨cd,hc,_⟩:=PySem.W.any_some c.hd
    rw [hc];rfl
  have e:=I1.env0
  refine PySem.W.get_bind I.kIn J (PySem.W.plainGet_of (c.get f)).1 (PySem.W.findObj_data hc hp.at_ hp.get hp.tak) (PySem.W.plainGet_of (c.get f)).2 (wpAny_call (PySem.W.prop_get (s:={ s with toks:=s.toks + 1 }) I.kIn hrec ?_))
  refine codeAny_mono (F.run X.A.in1 X.stack { s with toks:=s.toks + 1 } H ⟨[.ref a],[]⟩ [.ref a] [.ref a] Q (fun _ _ _=>False) hr.in1 hg e.in1 (by
    have:=hb { s with toks:=s.toks + 1 } [.ref a] I1.kIn (by simpa using hl)
    simpa using this) (.cons rfl .nil) h) fun r s' hq=>?_
  cases r with
  | error er=>
    obtain ⟨_,_,_,_,_,_,_,_,_,_,_,_,z⟩:=hq
    exact z.elim
  | ok fl=>
    cases fl with
    | ret u=>
      obtain ⟨v,H',I3,rv,q3⟩:=I1.after hq
      show wpAny _ _ (handedOut u) _ _ _
      rw [PySem.W.handedOut_of (handed_of rv)]
      exact wpAny_pure ⟨v,H',I3,rv,q3⟩
    | next=>exact False.elim hq
    | brk=>exact False.elim hq
    | cont=>exact False.elim hq
def dProp (C:Addr) (sp:SpD) (te:TD):TD:=fun sl Q E=>te sl (fun x s1=>match pubV x with
  | .d (.ins D fs)=>D=C/\sp [.d (.ins D fs)] (fun v=>Q v s1) fun _ _=>False
  | _=>False) E
theorem ae1 (he:DE X W e te) (c:Cls X.K C) (hp:PropOf X.K C f p g) (F:FnG X.prog X.w X.K X.mg X.base k g fd ps sp) (hr:Room (k + 1) X.A) (hg:X.A.guards=some []) (hb:Binds X.K fd ps [])
    (hab:attributeBase e f X.env (eval e X.env)=eval e X.env:=by rfl):DE X W (.Attribute e f pos) (dProp C sp te):=by
  refine ⟨fun pins s σ H R I ⟨G,so,sl,Q,E,rep,q,hq,hx⟩=>?_⟩
  refine attr_of hab (thn (he.run pins s σ H (fun v H1=>∃ G1 s1 fs,PostE X.K G so σ H sl v H1 G1 (.d (.ins C fs)) s1/\sp [.d (.ins C fs)] (fun v=>Q v s1) fun _ _=>False) I ⟨G,so,sl,_,E,rep,q,fun v H1 G1 dv s1 p1 z=>?_,hx⟩) fun u s1 ⟨x,H1,I1,rx,G1,sl1,fs,p1,z⟩=>?_)
  · obtain ⟨G2,p2⟩:=p1.pub
    split at z
    · rename_i D fs ed
      obtain ⟨rfl,z⟩:=z
      exact ⟨G2,s1,fs,by rw [<- ed];exact p2,z⟩
    · exact z.elim
  · obtain ⟨a,dx,vs,rfl,ea,_⟩:=VOk.inst p1.rep.h p1.val rfl
    obtain rfl:u=Value.ref a:=rx
    exact getprop I1 ea c hp F hr hg hb ⟨G1,so,_,_,_,p1.rep.h,.cons p1.val (fun _ e=>(nomatch e)) .nil,z,fun v H' G' dv pv y=>hq v H' G' dv sl1 (p1.toPost.thenE (pv.slots p1.rep)) y,fun _ _ _ _ _ _ _ y=>y⟩
end
def gAt (K:PySem.W.Frag) (C:Addr) (f:Str):Addr:=match PySem.W.recIn K (He.ma K C f) "property" with
  | some (.ref g::_)=>g
  | _=>(match PySem.W.recIn K (He.ma K C f) "staticmethod" with
    | some (.ref g::_)=>g
    | _=>0)
structure PSpec where
  cls:Str
  prop:Str
  df:He.DefD
  st:Bool:=false
structure SMet (K:PySem.W.Frag) (C:Addr) (m:Str) (p g:Addr):Prop where
  rd:PySem.W.readsIn K C (.type "type")=true
  ga:PySem.W.specialIn K (.ref C) "__getattribute__"=some (some (.builtin "type.__getattribute__"))
  at_:PySem.W.findCls K (.ref C) (.type "type") m=some (.get (.builtin "staticmethod.__get__") (.ref p) .none (.ref C))
  rc:∃ rest,PySem.W.recIn K p "staticmethod"=some (.ref g::rest)
def headS (K:PySem.W.Frag) (p g:Addr):Bool:=match PySem.W.recIn K p "staticmethod" with
  | some (.ref a::_)=>decide (a=g)
  | _=>false
def smB (K:PySem.W.Frag) (C p g:Addr) (m:Str):Bool:=PySem.W.readsIn K C (.type "type") && (decide (PySem.W.specialIn K (.ref C) "__getattribute__"=some (some (.builtin "type.__getattribute__"))) && ((match PySem.W.findCls K (.ref C) (.type "type") m with
  | some (.get (.builtin h) (.ref p') .none (.ref D))=>decide (h="staticmethod.__get__") && (decide (p'=p) && decide (D=C))
  | _=>false) && headS K p g))
theorem apF {K:PySem.W.Frag} {C p g:Addr} {m:Str} (h:smB K C p g m=true):SMet K C m p g:=by
  unfold smB at h
  obtain ⟨h1,h⟩:=He.ba h
  obtain ⟨h2,h⟩:=He.ba h
  obtain ⟨h3,h4⟩:=He.ba h
  refine ⟨h1,of_decide_eq_true h2,?_,?_⟩
  · split at h3
    · rename_i q p' D e
      obtain ⟨k1,k⟩:=He.ba h3
      obtain ⟨k2,k3⟩:=He.ba k
      rw [e,of_decide_eq_true k1,of_decide_eq_true k2,of_decide_eq_true k3]
    · cases h3
  · unfold headS at h4
    split at h4
    · rename_i a rest hr
      exact ⟨rest,by rw [hr,of_decide_eq_true h4]⟩
    · cases h4
def fnWa (K:PySem.W.Frag) (a:Addr):He.FnW:=match K.lookup a with
  | some ⟨_,_,.func fd,_⟩=>some (fd.name,fd.qualname,fd.params,fd.body,fd.scope,fd.globals,fd.closure,fd.builtins)
  | _=>none
def headed (K:PySem.W.Frag) (p g:Addr):Bool:=match PySem.W.recIn K p "property" with
  | some (.ref a::_)=>decide (a=g)
  | _=>false
def pB (K:PySem.W.Frag) (q:PSpec):Bool:=
  let C:=He.ga K q.cls
  let p:=He.ma K C q.prop
  let g:=gAt K C q.prop
  (if q.st then smB K C p g q.prop else decide (PySem.W.findIn K (.ref C) q.prop=some (some (.ref p))) && (decide (PySem.W.specialIn K (.ref p) "__get__"=some (some (.builtin "property.__get__"))) && (decide (PySem.W.takesIn K (.ref p)=some true) && headed K p g))) &&
  (PySem.W.keepIn K (.ref g) && (match K.lookup g with
    | some ⟨_,_,.func fd,_⟩=>PySem.W.codeIn K fd.code q.df.qual && (He.dflB K fd.defaults (q.df.dvs K) && He.kwdB K fd.kwdefaults (q.df.kws K))
    | _=>false))
structure POk (K:PySem.W.Frag) (q:PSpec):Prop where
  p:q.st=false->PropOf K (He.ga K q.cls) q.prop (He.ma K (He.ga K q.cls) q.prop) (gAt K (He.ga K q.cls) q.prop)
  s:q.st=true->SMet K (He.ga K q.cls) q.prop (He.ma K (He.ga K q.cls) q.prop) (gAt K (He.ga K q.cls) q.prop)
  f:∃ fd,FunD K q.df.name q.df.qual q.df.params q.df.body q.df.scope (q.df.dvs K) (q.df.kws K) (gAt K (He.ga K q.cls) q.prop) fd
theorem pB_ok {K:PySem.W.Frag} {q:PSpec} (c:pB K q=true) (e:fnWa K (gAt K (He.ga K q.cls) q.prop)=q.df.val):POk K q:=by
  unfold pB at c
  dsimp only at c
  obtain ⟨c0,c⟩:=He.ba c
  obtain ⟨c5,c6⟩:=He.ba c
  refine ⟨fun hs=>?_,fun hs=>?_,?_⟩
  · rw [hs,if_neg (by decide)] at c0
    obtain ⟨c1,c⟩:=He.ba c0
    obtain ⟨c2,c⟩:=He.ba c
    obtain ⟨c3,c4⟩:=He.ba c
    refine ⟨of_decide_eq_true c1,of_decide_eq_true c2,of_decide_eq_true c3,?_⟩
    unfold headed at c4
    split at c4
    · rename_i a rest hr
      exact ⟨rest,by rw [hr,of_decide_eq_true c4]⟩
    · cases c4
  · rw [hs,if_pos rfl] at c0
    exact apF c0
  · generalize gAt K (He.ga K q.cls) q.prop=g at *
    unfold fnWa at e
    split at c6
    · rename_i oc od fd osl lk
      rw [lk] at e
      obtain ⟨n1,n2,n3,n4,n5,n6,n7,n8,n9,n10,n11,n12,n13,n14,n15⟩:=fd
      have e2:(some (n1,n2,n3,n4,n5,n6,n7,n15):He.FnW)=some (q.df.name,q.df.qual,q.df.params,.stmts q.df.body,q.df.scope,mainGlobals,[],builtinsNs):=e
      simp only [Option.some.injEq,Prod.mk.injEq] at e2
      obtain ⟨h1,h2,h3,h4,h5,h6,h7,h8⟩:=e2
      subst h1 h2 h3 h4 h5 h6 h7 h8
      obtain ⟨k1,k2⟩:=He.ba c6
      obtain ⟨k3,k4⟩:=He.ba k2
      exact ⟨_,⟨oc,od,n8,n9,n10,n11,n12,n13,n14,osl,rfl,lk,k1,He.dflB_ok k3,He.kwdB_ok k4⟩,c5⟩
    · cases c6
structure LZ extends LY where
  ci:List Str
  pr:List PSpec
abbrev AlZ:Type:=Bool × AlY × List He.FnW
def LZ.ok (l:LZ) (K:PySem.W.Frag):Bool:=(l.ci.all fun C=>cB K (He.ga K C)) && l.pr.all (pB K)
def valZ (l:LZ) (fn:List He.DefD):AlZ:=(true,valY l.toLY fn,l.pr.map fun q=>q.df.val)
structure SaysZ (l:LZ) (fa:List He.Fa) (fn:List He.DefD) (h:Heap) (K:PySem.W.Frag):Prop extends SaysY l.toLY fa fn h K where
  ci:∀ C∈l.ci,CInst K (He.ga K C)
  pr:∀ q∈l.pr,POk K q
section
variable {prog:Program} {w:World} {A:Around} {E:Value->Shared->Prop} {s:Shared}
end
theorem agN {K:PySem.W.Frag} {f:Str} {C:Addr} {fs:List (Str × D)} {d:D} {Q:DV->Prop} (h1:Cls K C) (h2:NoAttr K C f) (h3:fs.lookup f=some d) (q:Q (.d d)):fldR K f (.d (.ins C fs)) Q:=by
  unfold fldR
  show Cls K C/\NoAttr K C f/\(match fs.lookup f with | some d=>Q (.d d) | none=>False)
  rw [h3]
  exact ⟨h1,h2,q⟩
mutual
def Pl:D->Prop
  | .lst ds=>Pls ds
  | .tup ds=>Pls ds
  | .ins _ _=>False
  | .dk _=>False
  | .dt _=>False
  | .any=>False
  | .raw _=>False
  | .kt _=>False
  | .non=>True
  | .bl _=>True
  | .int _=>True
  | .str _=>True
def Pls:List D->Prop
  | []=>True
  | d::r=>Pl d/\Pls r
end
theorem Pl.kind {d:D} (h:Pl d):kindD d=true:=by
  cases d<;>first | rfl | (unfold Pl at h;exact h.elim)
theorem Pl.tup {ds:List D} (h:Pl (.tup ds)):Pls ds:=by rw [Pl] at h;exact h
theorem Pl.lst {ds:List D} (h:Pl (.lst ds)):Pls ds:=by rw [Pl] at h;exact h
theorem Pls.hd {d:D} {r:List D} (h:Pls (d::r)):Pl d:=by rw [Pls] at h;exact h.1
theorem Pls.tl {d:D} {r:List D} (h:Pls (d::r)):Pls r:=by rw [Pls] at h;exact h.2
theorem Pls.of:∀ {ds:List D},(∀ d∈ds,Pl d)->Pls ds
  | [],_=>by simp [Pls]
  | d::r,h=>by rw [Pls];exact ⟨h d (List.mem_cons_self ..),Pls.of fun x hx=>h x (List.mem_cons_of_mem _ hx)⟩
theorem apM {ds:List D} (h:Pls ds):Pl (.tup ds):=by rw [Pl];exact h
theorem anR {ds:List D} (h:Pls ds):Pl (.lst ds):=by rw [Pl];exact h
theorem afO {i:Int}:Pl (.int i):=by simp [Pl]
theorem akT {b:Bool}:Pl (.bl b):=by simp [Pl]
theorem ajE:Pls []:=by simp [Pls]
theorem adv {d:D} {r:List D} (h:Pl d) (t:Pls r):Pls (d::r):=by rw [Pls];exact ⟨h,t⟩
theorem aoA (q:Rat):Pl (rD q):=apM (adv afO (adv afO ajE))
theorem Pl.pair {d:D} (h:Pl d):pairK d:=by
  cases d with
  | tup ds=>
    match ds,h with
    | [],_=>exact True.intro
    | [_],_=>exact True.intro
    | [a,b],h=>exact ⟨h.tup.hd.kind,h.tup.tl.hd.kind⟩
    | _::_::_::_,_=>exact True.intro
  | kt _=>rw [Pl] at h;exact h.elim
  | _=>exact True.intro
theorem ail {n d:Int} (h:0 < d) (hb:d.natAbs < 2 ^ 8000):CDivW n (gcI n d):=by
  have g:=amj (n:=n) h
  refine ⟨g,?_⟩
  have l:gcI n d<=d:=Int.le_of_dvd h (Int.gcd_dvd_right n d)
  have:(gcI n d).natAbs < 2 ^ 8000:=Nat.lt_of_le_of_lt (by omega) hb
  exact Nat.lt_of_lt_of_le (PySem.Flt.log2_lt_of (by decide) this) (by decide)
theorem akQ {x:D} (k2:pairK x) (h:ratOf x=none):wholeD x=false/\ratioD x=false:=by
  unfold ratOf at h
  split at h
  · cases h
  · rename_i a b
    split at h
    · cases h
    · rename_i z
      refine ⟨rfl,?_⟩
      show (decide (1<=b) && decide (gcI a b=1))=false
      rw [Bool.and_eq_false_iff]
      by_cases q:1<=b
      · exact .inr (decide_eq_false fun y=>z ⟨q,y⟩)
      · exact .inl (decide_eq_false q)
  · rename_i z1 z2
    refine ⟨?_,?_⟩
    · cases x<;>first | rfl | exact absurd rfl (z1 _)
    · cases x with
      | tup ds=>
        match ds with
        | []=>rfl
        | [_]=>exact ae7 (by simp)
        | _::_::_::_=>exact ae7 (by simp)
        | [a,b]=>cases a<;>cases b<;>first | rfl | exact absurd rfl (z2 _ _)
      | _=>rfl
theorem ratOf_some {x:D} {q:Rat} (h:ratOf x=some q):(∃ i:Int,x=.int i/\rD q=rt i 1)\/(wholeD x=false/\ratioD x=true/\x=rD q):=by
  unfold ratOf at h
  split at h
  · rename_i i
    cases h
    exact .inl ⟨i,rfl,rfl⟩
  · rename_i a b
    split at h
    · rename_i z
      cases h
      refine .inr ⟨rfl,?_,(apK z.1 z.2).symm⟩
      show (decide (1<=b) && decide (gcI a b=1))=true
      rw [decide_eq_true z.1,decide_eq_true z.2];rfl
    · cases h
  · cases h
end DL
namespace DL
section
variable {te:TD} {t u:TDS} {E:EndsD} {sl s':DSt} {i:Nat}
theorem amV (R:List D->Prop) (h:∀ Q:DV->DSt->Prop,(∀ ds,R ds->Q (.own (.lst ds)) s')->te sl Q E.xc) (q:∀ ds,R ds->u E (s'.set i (some (.own (.lst ds))))):dSeq (dSet te i) u E sl:=h _ q
end
theorem anA {α:Type} {xs:List α} {k:Nat} (h:k<=xs.length):cut xs none (some (k:Int))=xs.take k:=by
  unfold cut
  have e1:HT.sIx xs.length 0 none=0:=rfl
  have e2:HT.sIx xs.length xs.length (some (k:Int))=k:=by
    rw [HT.sIx_nat];omega
  rw [e1,e2];simp
end DL
namespace DL
open PySem PySem.Spec PyProof.Rows L2
section
variable {X:Cx} {W:WX} {e:Expr} {es:List Expr} {ta te:TD} {tr tk:TDA} {p pos kpos:Pos} {kws:List Keyword} {nm:Option Str}
end
section
variable {X:Cx} {W:WX} {e:Expr} {te:TD} {tk:TDA} {kpos:Pos} {kws:List Keyword} {nm:Str}
end
def Lent (x:DV):Prop:=(∃ d,x=.d d)\/∃ ds,x=.bor (.lst ds)
def dAppT (to te:TD):TDS:=fun E sl=>to sl (fun x s1=>match x with
  | .own (.lst ds)=>te s1 (fun y s2=>match pubV y with
    | .d _=>ds.length < szl/\E.nx s2
    | _=>False) E.xc
  | _=>False) E.xc
section
variable {K:PySem.W.Frag} {G G2:Hp} {so:So} {σ:L2.St} {H H2:Hp} {sl s2:DSt} {a:Addr} {u:HO}
theorem PostS.tmp (p:Post K G so σ H sl H2 G2 s2) (new:H a=none\/Own sl σ a) (g:G2 a=none) (s:so.Nt a) (n:¬ Own s2 σ a) (nb:∀ (i:Nat) (o:OO),s2[i]?=some (some (.bor o))->σ[i]?=some (some (.ref a))->False) (nt:∀ xs,u≠.tup xs:=by intro _ z;cases z):PostS K G so σ H sl σ (upd H2 a u) G2 s2:=by
  have old:∀ b o,H b=some o->¬ Own sl σ b->b≠a:=fun b o e w z=>by
    subst z
    rcases new with y | y
    · rw [e] at y;cases y
    · exact w y
  refine ⟨p.ex,⟨⟨fun b o e=>?_,fun b k q=>?_,p.rep.h.ok,aea p.rep.h.tp nt⟩,p.rep.len,fun i dv e=>?_,p.rep.sep,p.rep.bor,p.rep.nse⟩,fun b o e sb w=>?_,fun b n1 g1 sb w=>p.frm b n1 g1 sb w,fun b n1 sb w z=>w (p.sub b z),rfl⟩
  · have:b≠a:=fun z=>by rw [z,g] at e;cases e
    rw [upd_ne this];exact p.rep.h.ex b o e
  · have:b≠a:=fun z=>s ⟨k,z ▸ q⟩
    exact (p.rep.h.vol b k q).keep (Ex.refl _) (p.rep.h.vol b k q).g (upd_ne this)
  · obtain ⟨v,e1,w⟩:=p.rep.slots i dv e
    refine ⟨v,e1,?_⟩
    cases dv with
    | d x=>exact w
    | src=>exact w
    | own o=>
      obtain ⟨b,rfl,g1,s1,k⟩:=w
      have:b≠a:=fun z=>n ⟨i,o,e,z ▸ e1⟩
      exact ⟨b,rfl,g1,s1,k.keep (Ex.refl _) (upd_ne this)⟩
    | bor o=>
      obtain ⟨b,rfl,s1,k⟩:=w
      have:b≠a:=fun z=>nb i o e (z ▸ e1)
      exact ⟨b,rfl,s1,k.keep (Ex.refl _) (upd_ne this)⟩
    | see o=>exact absurd e (p.rep.nse i o)
    | mu y D gs=>exact SlOk.muU w (Ex.refl _) s
    | gh _ _=>exact SlOk.ghU w (Ex.refl _) s
  · rw [upd_ne (old b o e w)];exact p.keep b o e sb
end
section
variable {X:Cx} {W:WX} {o value:Expr} {to te:TD} {pos pos':Pos}
theorem api (ho:DE X W o to) (hv:DE X W value te) (hbase:attributeBase o "append" X.env (eval o X.env)=eval o X.env:=by rfl)
    (hfew:((backTo pos (starEach [value] X.env)).all (fun x=>!x.1) && (backToKw pos (keywordEach [] X.env)).all (fun x=>x.1.isSome)
      && decide ([value].length + ([]:List Keyword).length + (if ([]:List Keyword).isEmpty then 0 else 1) < 30))=true:=by rfl)
    (hline:(pos'.endLine == pos.line)=true:=by rfl) (hs:starEach [value] X.env=(false,eval value X.env)::starEach [] X.env:=by rfl) (hplain:(backTo pos (starEach [] X.env)).any (·.1)=false:=by rfl) {spos:Pos}
    (hsw:swapsWith (.Call (.Attribute o "append" pos') [value] [] pos) none spos.line X.env=pure false:=by rfl) :
    DS X W (.Expr (.Call (.Attribute o "append" pos') [value] [] pos) spos) (dAppT to te):=by
  refine adp (ps_expr (pe_bm PySem.F.plainAttrs_list PySem.F.slot_list_append PySem.F.type_list_append mt_append ho (pa_cons hv pa_nil hs) hbase hfew hline hs hplain) hsw) fun D σ H ⟨G,so,sl,E,rep,q,ok⟩=>?_
  refine ⟨G,so,sl,_,E.xc,rep,q,fun x H1 G1 dx s1 p1 z=>?_,ok.xc.ex⟩
  split at z
  · rename_i ds
    obtain ⟨a,rfl,ga,sa,vs,h1,h2⟩:=p1.val
    refine ⟨.inl ⟨rfl,_,SqL.of h1⟩,?_⟩
    refine ⟨G1,so,s1,_,E.xc,p1.rep,z,fun y H2 G2 dy s2 p2 z2=>?_,(ok.step p1.toPost.s).xc.ex⟩
    obtain ⟨G3,p3⟩:=p2.pub
    split at z2
    · obtain ⟨l,z2⟩:=z2
      have k1:H2 a=some (.lst vs):=p3.keep a _ h1 sa
      have n1:¬ Own s1 σ a:=p1.sepv a _ (.inl rfl) rfl
      refine ⟨a,vs,y,rfl,rfl,k1,by rw [h2.length];exact l,?_⟩
      refine ok.nx σ _ G3 _ (PostS.tmp (p1.toPost.trans p3.toPost) (p1.new a _ rfl rfl) (p3.frm a (by rw [h1];simp) ga sa n1) sa (fun w=>n1 (p3.sub a w)) (fun i o e1 e2=>?_)) z2
      obtain ⟨o',e3⟩:=p3.bsub i o e1
      exact p1.nbs a _ i o' rfl rfl e3 e2
    · exact z2.elim
  · exact z.elim
end
def keepR:DV->Prop
  | .see _=>False
  | .bor _=>False
  | _=>True
section
variable {X:Cx} {W:WX} {a b:Expr} {ta tb:TD} {i j:Nat} {x y:Str} {pos:Pos}
end
theorem ahk {prog:Program} {w:World} {x:Addr} {S:PySem.Spec} (h:∀ (A:Around) (R:Result->Shared->Prop) (s:Shared),S A R s->wpAny (model prog w) A.in1 (truthy (.ref x)) (fun b s'=>R (.ok (.ret (.bool b))) s') (fun e s'=>R (.error e) s') s) :
    MeetsIn prog w (Builtin.«bool.__new__» ⟨[.type "bool",.ref x],[]⟩) S:=
  MeetsIn.of_wp fun A R s hs=>by
    have h1:=h A R s hs
    have f1:=F.conv_sub_bool
    repeat (any_goals (first | assumption | (with_reducible refine wpAny_mono h1 (fun b s' hb=>?_) (fun _ _ z=>z)) | wp_step))
    all_goals first | exact ⟨_,rfl,hb⟩ | skip
theorem aiu {prog:Program} {w:World} {A:Around} {E:Value->Shared->Prop} {s:Shared} {x:Addr} {Q:Value->Shared->Prop} (h:wpAny (model prog w) A.in1.in1 (truthy (.ref x)) (fun b s'=>Q (.bool b) s') E s):wpAny (model prog w) A (call (.type "bool") [.ref x]) Q E s:=
  callType_newIn F.called_bool F.newNe_bool (F.typeCall_bool_1 _) (F.newCall_bool_1 _) (fun obj=>F.args_object_init_2 obj _) F.entry_bool_new (S:=fun A' R s'=>wpAny (model prog w) A'.in1 (truthy (.ref x)) (fun b s''=>R (.ok (.ret (.bool b))) s'') (fun e s''=>R (.error e) s'') s') (ahk fun A' R s' z=>z)
    (wpAny_mono h (fun b s'' z=>⟨rfl,z⟩) fun _ _ z=>z)
section
variable {X:Cx} {k:Nat} {f C:Addr} {fd:FuncData} {ps:List Str} {sp:SpD}
def rBoolI (K:PySem.W.Frag) (C:Addr) (sp:SpD):List V->Hp->VK->Prop:=fun xs H Q=>∃ a dx fs,xs=[.ref a]/\H a=some (.ins C dx fs)/\upSp K sp xs H (fun v H'=>∃ b:Bool,v=.bl b/\Q v H') fun _ _ _=>False
theorem ak9 (hm:Meth X.K C "__bool__" f) (F:FnG X.prog X.w X.K X.mg X.base k f fd ps sp) (hr:Room (k + 2) X.A) (hg:X.A.guards=some []) (hb:Binds X.K fd ps []):CallR X (.type "bool") (rBoolI X.K C sp):=by
  intro pins s σ H xs us Q I r h
  obtain ⟨a,dx,fs,rfl,e,q⟩:=h
  obtain ⟨u,rfl,ru⟩:∃ u,us=[u]/\RelV (.ref a) u:=by
    cases r with
    | cons ru t=>cases t;exact ⟨_,rfl,ru⟩
  cases ru
  obtain ⟨mA,J,_⟩:=ins_get I.hok e
  obtain ⟨od,J,_⟩:=J.look
  obtain ⟨m,hF⟩:=I.fr
  refine aiu (PySem.W.truthy_K (h₀:=X.base) hF I.ok.mod.kin J hm.at_ hm.fn ?_)
  refine wpAny_mono (aeU (A:=X.A.in1.in1) F (hr.in1.in1) hg rfl hb I r q) (fun v s' hv=>?_) fun _ _ x=>x
  obtain ⟨y,H',I',ry,b,rfl,hq⟩:=hv
  obtain rfl:v=.bool b:=ry
  exact ⟨.bl b,H',I',rfl,hq⟩
@[irreducible] def boolIR (C:Addr) (sp:SpD):List DV->(DV->Prop)->Prop
  | [.d (.ins D fs)],Q=>D=C/\sp [.d (.ins D fs)] (fun v=>match v with
    | .d (.bl n)=>Q (.d (.bl n))
    | _=>False) fun _ _=>False
  | _,_=>False
theorem alq {K:PySem.W.Frag}:CallSem K (rBoolI K C sp) (boolIR C sp):=by
  intro G so H xs dxs Q R h w q k
  unfold boolIR at q
  split at q
  · rename_i D fs
    obtain ⟨rfl,q⟩:=q
    obtain ⟨v,rfl,w1,_⟩:=w.v1
    obtain ⟨a,dx,vs,rfl,e,_⟩:=VOk.inst h w1 rfl
    refine ⟨a,dx,vs,rfl,e,G,so,_,_,_,h,.cons w1 (fun _ e=>(nomatch e)) .nil,q,fun v H' G' dv p z=>?_,fun _ _ _ _ _ _ _ z=>z⟩
    split at z
    · rename_i n
      have:v=.bl n:=by
        have:=p.val
        cases this;rfl
      subst this
      exact ⟨n,rfl,k _ H' G' _ p z⟩
    · exact z.elim
  · exact q.elim
theorem aoZ {fs:List (Str × D)} {Q:DV->Prop} (h:sp [.d (.ins C fs)] (fun v=>match v with | .d (.bl n)=>Q (.d (.bl n)) | _=>False) fun _ _=>False):boolIR C sp [.d (.ins C fs)] Q:=by
  unfold boolIR
  exact ⟨rfl,h⟩
end
def cvB (K:PySem.W.Frag) (C f:Str) (d:D):Bool:=PySem.W.readsIn K (He.ga K C) (.type "type") && (decide (PySem.W.specialIn K (.ref (He.ga K C)) "__getattribute__"=some (some (.builtin "type.__getattribute__"))) && (match PySem.W.findCls K (.ref (He.ga K C)) (.type "type") f with
  | some (.val u)=>datB K d u
  | _=>false))
def CConst (K:PySem.W.Frag) (C:Addr) (f:Str) (d:D):Prop:=∃ v u,ClX.CRead K C (.type "type")/\ClX.CVal K C (.type "type") f v u/\∀ G,DOk K G v d
theorem aqw {K:PySem.W.Frag} {C f:Str} {d:D} (h:cvB K C f d=true):CConst K (He.ga K C) f d:=by
  obtain ⟨h1,h2⟩:=He.ba h
  obtain ⟨h3,h4⟩:=He.ba h2
  split at h4
  · rename_i u e
    obtain ⟨v,r,w⟩:=ais d u h4
    exact ⟨v,u,⟨h1,of_decide_eq_true h3⟩,⟨e,r⟩,w⟩
  · cases h4
theorem cv_ok {l:LX} {fa:List He.Fa} {fn:List He.DefD} {h:Heap} {K:PySem.W.Frag} {C f:Str} {d:D} (S:SaysX l fa fn h K) {i:Nat} (e:l.xs[i]?=some (fun K=>cvB K C f d)):CConst K (He.ga K C) f d:=
  aqw (List.all_eq_true.mp (He.ba (He.ba S.c).2).2 _ (List.mem_of_getElem? e))
theorem apr {X:Cx} {W:WX} {e:Expr} {C:Addr} {f:Str} {d:D} {pos:Pos} (c:CConst X.K C f d) (he:PE X e (tC (.ref C))) (hb:attributeBase e f X.env (eval e X.env)=eval e X.env:=by rfl):DE X W (.Attribute e f pos) (dC d):=by
  obtain ⟨v,u,c1,c2,w⟩:=c
  refine aaD (ClX.pe_cval he hb) fun σ H R ⟨G,so,sl,Q,E,rep,q,hq,_⟩=>?_
  exact ⟨C,_,v,u,rfl,c1,c2,hq v H G _ sl ((Post.refl rep).thenV (.dat rep.h (w G))) q⟩
inductive Fa2 {α β:Type} (R:α->β->Prop):List α->List β->Prop
  | nil:Fa2 R [] []
  | cons {x:α} {y:β} {xs:List α} {ys:List β} (h:R x y) (t:Fa2 R xs ys):Fa2 R (x::xs) (y::ys)
section
variable {α β γ:Type} {R:α->β->Prop} {xs:List α} {ys:List β}
theorem Fa2.mono {S:α->β->Prop} (h:Fa2 R xs ys) (k:∀ x y,R x y->S x y):Fa2 S xs ys:=by
  induction h with
  | nil=>exact .nil
  | cons h _ ih=>exact .cons (k _ _ h) ih
end
section
variable {g:TDG} {tt:TDT} {te:TD} {vs:List Nat} {Q:DV->DSt->Prop}
end
def eqKs:List Key->List D->Bool
  | [],[]=>true
  | k::ks,d::ds=>eqF (keyD k) d && eqKs ks ds
  | _,_=>false
def eqKs':List D->List Key->Bool
  | [],[]=>true
  | d::ds,k::ks=>eqF d (keyD k) && eqKs' ds ks
  | _,_=>false
mutual
def eqD:D->D->Bool
  | .lst a,.lst b=>eqDs a b
  | .tup a,.tup b=>eqDs a b
  | .kt a,.kt b=>decide (a=b)
  | .kt a,.tup b=>eqKs a b
  | .tup a,.kt b=>eqKs' a b
  | x,y=>eqF x y
def eqDs:List D->List D->Bool
  | [],[]=>true
  | a::r,b::s=>eqD a b && eqDs r s
  | _,_=>false
end
theorem ao0 (k:Key):∀ (d:D) (q:PyData),d.py=some q->PyData.eqv (keyPy k) q=eqF (keyD k) d/\PyData.eqv q (keyPy k)=eqF d (keyD k):=by
  intro d q h
  cases k<;>cases d<;>rw [D.py] at h<;>first | (cases h;done) | (cases h;exact ⟨by rw [keyPy,PyData.eqv];rfl,by rw [keyPy,PyData.eqv];rfl⟩) | (obtain ⟨qs,hq,rfl⟩:=Option.map_eq_some_iff.mp h;exact ⟨by rw [keyPy,PyData.eqv];rfl,by rw [keyPy,PyData.eqv];rfl⟩)
theorem ajX:∀ (ks:List Key) (b:List D) (qs:List PyData),D.pyAll b=some qs->PyData.eqvAll (ks.map keyPy) qs=eqKs ks b/\PyData.eqvAll qs (ks.map keyPy)=eqKs' b ks
  | [],[],qs,h=>by rw [D.pyAll] at h;cases h;exact ⟨rfl,rfl⟩
  | [],d::b,qs,h=>by
    rw [D.pyAll] at h
    split at h<;>cases h
    exact ⟨rfl,rfl⟩
  | k::ks,[],qs,h=>by rw [D.pyAll] at h;cases h;exact ⟨rfl,rfl⟩
  | k::ks,d::b,qs,h=>by
    rw [D.pyAll] at h
    split at h
    · rename_i p ps e1 e2
      cases h
      obtain ⟨h1,h2⟩:=ao0 k d p e1
      obtain ⟨i1,i2⟩:=ajX ks b ps e2
      rw [List.map_cons,PyData.eqvAll,PyData.eqvAll,h1,h2,i1,i2,eqKs,eqKs']
      exact ⟨rfl,rfl⟩
    · cases h
theorem aml:∀ (a b:List Key),PyData.eqvAll (a.map keyPy) (b.map keyPy)=decide (a=b)
  | [],[]=>rfl
  | [],_::_=>rfl
  | _::_,[]=>rfl
  | j::a,k::b=>by
    rw [List.map_cons,List.map_cons,PyData.eqvAll,aml a b]
    have e:PyData.eqv (keyPy j) (keyPy k)=decide (j=k):=by
      cases j with
      | inl i=>cases k with
        | inl m=>rw [keyPy,keyPy,PyData.eqv,key_ll]
        | inr z=>rw [keyPy,keyPy,PyData.eqv,key_lr]
      | inr y=>cases k with
        | inl m=>rw [keyPy,keyPy,PyData.eqv,key_rl]
        | inr z=>
          rw [keyPy,keyPy,PyData.eqv,key_rr]
          by_cases e:y=z
          · subst e;simp
          · rw [decide_eq_false e];exact beq_eq_false_iff_ne.mpr e
    rw [e]
    by_cases h1:j=k
    · subst h1;simp
    · simp [h1]
mutual
theorem an5:∀ (d e:D) (p q:PyData),d.py=some p->e.py=some q->PyData.eqv p q=eqD d e
  | .lst a,e,p,q,h1,h2=>by
    rw [D.py] at h1
    obtain ⟨ps,hp,rfl⟩:=Option.map_eq_some_iff.mp h1
    cases e with
    | lst b=>
      rw [D.py] at h2
      obtain ⟨qs,hq,rfl⟩:=Option.map_eq_some_iff.mp h2
      rw [PyData.eqv,eqD];exact ajY a b ps qs hp hq
    | tup b=>
      rw [D.py] at h2
      obtain ⟨qs,hq,rfl⟩:=Option.map_eq_some_iff.mp h2
      rw [PyData.eqv];rfl
    | ins _ _=>rw [D.py] at h2;cases h2
    | dk _=>rw [D.py] at h2;cases h2
    | dt _=>rw [D.py] at h2;cases h2
    | any=>rw [D.py] at h2;cases h2
    | raw _=>rw [D.py] at h2;cases h2
    | _=>rw [D.py] at h2;cases h2;rw [PyData.eqv];rfl
  | .tup a,e,p,q,h1,h2=>by
    rw [D.py] at h1
    obtain ⟨ps,hp,rfl⟩:=Option.map_eq_some_iff.mp h1
    cases e with
    | tup b=>
      rw [D.py] at h2
      obtain ⟨qs,hq,rfl⟩:=Option.map_eq_some_iff.mp h2
      rw [PyData.eqv,eqD];exact ajY a b ps qs hp hq
    | lst b=>
      rw [D.py] at h2
      obtain ⟨qs,hq,rfl⟩:=Option.map_eq_some_iff.mp h2
      rw [PyData.eqv];rfl
    | kt b=>
      rw [D.py] at h2
      cases h2
      rw [PyData.eqv,eqD];exact (ajX b a ps hp).2
    | ins _ _=>rw [D.py] at h2;cases h2
    | dk _=>rw [D.py] at h2;cases h2
    | dt _=>rw [D.py] at h2;cases h2
    | any=>rw [D.py] at h2;cases h2
    | raw _=>rw [D.py] at h2;cases h2
    | _=>rw [D.py] at h2;cases h2;rw [PyData.eqv];rfl
  | .non,e,p,q,h1,h2=>by
    rw [D.py] at h1;cases h1
    cases e with
    | lst b=>rw [D.py] at h2;obtain ⟨qs,hq,rfl⟩:=Option.map_eq_some_iff.mp h2;rw [PyData.eqv];rfl
    | tup b=>rw [D.py] at h2;obtain ⟨qs,hq,rfl⟩:=Option.map_eq_some_iff.mp h2;rw [PyData.eqv];rfl
    | ins _ _=>rw [D.py] at h2;cases h2
    | dk _=>rw [D.py] at h2;cases h2
    | dt _=>rw [D.py] at h2;cases h2
    | any=>rw [D.py] at h2;cases h2
    | raw _=>rw [D.py] at h2;cases h2
    | _=>rw [D.py] at h2;cases h2;rw [PyData.eqv];rfl
  | .bl x,e,p,q,h1,h2=>by
    rw [D.py] at h1;cases h1
    cases e with
    | lst b=>rw [D.py] at h2;obtain ⟨qs,hq,rfl⟩:=Option.map_eq_some_iff.mp h2;rw [PyData.eqv];rfl
    | tup b=>rw [D.py] at h2;obtain ⟨qs,hq,rfl⟩:=Option.map_eq_some_iff.mp h2;rw [PyData.eqv];rfl
    | ins _ _=>rw [D.py] at h2;cases h2
    | dk _=>rw [D.py] at h2;cases h2
    | dt _=>rw [D.py] at h2;cases h2
    | any=>rw [D.py] at h2;cases h2
    | raw _=>rw [D.py] at h2;cases h2
    | _=>rw [D.py] at h2;cases h2;rw [PyData.eqv];rfl
  | .int x,e,p,q,h1,h2=>by
    rw [D.py] at h1;cases h1
    cases e with
    | lst b=>rw [D.py] at h2;obtain ⟨qs,hq,rfl⟩:=Option.map_eq_some_iff.mp h2;rw [PyData.eqv];rfl
    | tup b=>rw [D.py] at h2;obtain ⟨qs,hq,rfl⟩:=Option.map_eq_some_iff.mp h2;rw [PyData.eqv];rfl
    | ins _ _=>rw [D.py] at h2;cases h2
    | dk _=>rw [D.py] at h2;cases h2
    | dt _=>rw [D.py] at h2;cases h2
    | any=>rw [D.py] at h2;cases h2
    | raw _=>rw [D.py] at h2;cases h2
    | _=>rw [D.py] at h2;cases h2;rw [PyData.eqv];rfl
  | .str x,e,p,q,h1,h2=>by
    rw [D.py] at h1;cases h1
    cases e with
    | lst b=>rw [D.py] at h2;obtain ⟨qs,hq,rfl⟩:=Option.map_eq_some_iff.mp h2;rw [PyData.eqv];rfl
    | tup b=>rw [D.py] at h2;obtain ⟨qs,hq,rfl⟩:=Option.map_eq_some_iff.mp h2;rw [PyData.eqv];rfl
    | ins _ _=>rw [D.py] at h2;cases h2
    | dk _=>rw [D.py] at h2;cases h2
    | dt _=>rw [D.py] at h2;cases h2
    | any=>rw [D.py] at h2;cases h2
    | raw _=>rw [D.py] at h2;cases h2
    | _=>rw [D.py] at h2;cases h2;rw [PyData.eqv];rfl
  | .ins _ _,e,p,q,h1,h2=>by rw [D.py] at h1;cases h1
  | .dk _,e,p,q,h1,h2=>by rw [D.py] at h1;cases h1
  | .dt _,e,p,q,h1,h2=>by rw [D.py] at h1;cases h1
  | .any,e,p,q,h1,h2=>by rw [D.py] at h1;cases h1
  | .raw _,e,p,q,h1,h2=>by rw [D.py] at h1;cases h1
  | .kt a,e,p,q,h1,h2=>by
    rw [D.py] at h1
    cases h1
    cases e with
    | tup b=>
      rw [D.py] at h2
      obtain ⟨qs,hq,rfl⟩:=Option.map_eq_some_iff.mp h2
      rw [PyData.eqv,eqD];exact (ajX a b qs hq).1
    | kt b=>
      rw [D.py] at h2
      cases h2
      rw [PyData.eqv,eqD];exact aml a b
    | lst b=>
      rw [D.py] at h2
      obtain ⟨qs,hq,rfl⟩:=Option.map_eq_some_iff.mp h2
      rw [PyData.eqv];rfl
    | ins _ _=>rw [D.py] at h2;cases h2
    | dk _=>rw [D.py] at h2;cases h2
    | dt _=>rw [D.py] at h2;cases h2
    | any=>rw [D.py] at h2;cases h2
    | raw _=>rw [D.py] at h2;cases h2
    | _=>rw [D.py] at h2;cases h2;rw [PyData.eqv];rfl
theorem ajY:∀ (a b:List D) (ps qs:List PyData),D.pyAll a=some ps->D.pyAll b=some qs->PyData.eqvAll ps qs=eqDs a b
  | [],[],ps,qs,h1,h2=>by rw [D.pyAll] at h1 h2;cases h1;cases h2;rfl
  | [],y::b,ps,qs,h1,h2=>by
    rw [D.pyAll] at h1;rw [D.pyAll] at h2;cases h1
    split at h2<;>cases h2
    rfl
  | x::a,[],ps,qs,h1,h2=>by
    rw [D.pyAll] at h1;rw [D.pyAll] at h2;cases h2
    split at h1<;>cases h1
    rfl
  | x::a,y::b,ps,qs,h1,h2=>by
    rw [D.pyAll] at h1 h2
    split at h1
    · rename_i p' ps' e1 e2
      cases h1
      split at h2
      · rename_i q' qs' e3 e4
        cases h2
        rw [PyData.eqvAll,eqDs,an5 x y p' q' e1 e3,ajY a b ps' qs' e2 e4]
      · cases h2
    · cases h1
end
theorem apc {b:Nat} {d:D} (h:Fine b d) (hd:dep d<=60:=by decide) (hb:0 < b:=by decide) (hb2:b<=500:=by decide):∃ p,d.py=some p/\SeqAt.shaped p=true:=by
  obtain ⟨p,w⟩:=af7 hb hb2 d h
  exact ⟨p,w.py,by simp [SeqAt.shaped,w.lay,Nat.le_trans w.dp (show dep d<=64 by omega)]⟩
theorem al6 {n:Bool} {v w:DV} {d e:D} {Q:DV->Prop} (hv:v.dat=some d) (hw:w.dat=some e) (h1:∃ p,d.py=some p/\SeqAt.shaped p=true) (h2:∃ p,e.py=some p/\SeqAt.shaped p=true) (q:Q (.d (.bl (if n then !eqD d e else eqD d e)))):eqR n v w Q:=by
  obtain ⟨p,p1,p2⟩:=h1
  obtain ⟨p',p3,p4⟩:=h2
  unfold eqR
  split
  · cases hv;cases hw
    exact q
  · cases hv;cases hw
    rename_i i j
    have z:eqD (.str i) (.str j)=decide (i=j):=by
      show (i == j)=_
      rw [Bool.eq_iff_iff];simp
    rw [z] at q
    exact q
  · cases hv;cases hw
    rename_i i j
    have z:eqD (.bl i) (.bl j)=decide (i=j):=by
      show (i == j)=_
      rw [Bool.eq_iff_iff];simp
    rw [z] at q
    exact q
  · unfold eqDeep
    rw [hv,hw]
    dsimp only
    rw [p1,p3]
    refine ⟨p2,p4,?_⟩
    rw [an5 d e p p' p1 p3]
    exact q
mutual
theorem ans:∀ d:D,Pl d->eqD d d=true
  | .lst a,h=>by rw [eqD];exact adJ a h.lst
  | .tup a,h=>by rw [eqD];exact adJ a h.tup
  | .non,_=>rfl
  | .bl b,_=>by show (b == b)=true;simp
  | .int i,_=>by show (i == i)=true;simp
  | .str z,_=>by show (z == z)=true;simp
  | .ins _ _,h=>by rw [Pl] at h;exact h.elim
  | .dk _,h=>by rw [Pl] at h;exact h.elim
  | .dt _,h=>by rw [Pl] at h;exact h.elim
  | .any,h=>by rw [Pl] at h;exact h.elim
  | .raw _,h=>by rw [Pl] at h;exact h.elim
  | .kt _,h=>by rw [Pl] at h;exact h.elim
theorem adJ:∀ ds:List D,Pls ds->eqDs ds ds=true
  | [],_=>by rw [eqDs]
  | d::r,h=>by rw [eqDs,ans d h.hd,adJ r h.tl];rfl
end
theorem af8:∀ {a b:List D},eqDs a b=true->a.length=b.length
  | [],[],_=>rfl
  | [],_::_,h=>by rw [eqDs] at h<;>first | cases h | (intros;simp_all)
  | _::_,[],h=>by rw [eqDs] at h<;>first | cases h | (intros;simp_all)
  | _::r,_::s,h=>by
    rw [eqDs,Bool.and_eq_true] at h
    rw [List.length_cons,List.length_cons,af8 h.2]
theorem apg {a b:List D} (h:a.length≠b.length):eqDs a b=false:=by
  cases e:eqDs a b with
  | false=>rfl
  | true=>exact absurd (af8 e) h
theorem aec (x:Str):Str.empty++x=x:=by
  show (⟨#[]++x.cps⟩:Str)=x
  rw [Array.empty_append]
theorem afF {b:Nat} {i:Int} (h:i.natAbs < 10 ^ b) (hb:0 < b:=by decide) (h2:b<=500:=by decide):(toString i:Str).length<=b + 1:=(Shw.intN hb h2 h).ln
theorem aad (x y:Str):(x++y).length=x.length + y.length:=by
  show (x.cps++y.cps).size=x.cps.size + y.cps.size
  rw [Array.size_append]
theorem lg20 {i:Int} (h:i.natAbs < 10 ^ 20):i.natAbs.log2 < 1920:=
  PySem.Flt.log2_lt_of (by decide) (Nat.lt_of_lt_of_le h (Nat.le_trans (by decide:10 ^ 20<=2 ^ 100) (Nat.pow_le_pow_right (by decide) (by decide))))
def pubSl (i:Nat) (sl:DSt):DSt:=match sl[i]? with
  | some (some (.own o))=>sl.set i (some (.d (pubO o)))
  | _=>sl
def dPub (i:Nat) (t:TDS):TDS:=fun E sl=>t E (pubSl i sl)
theorem Rep.pubS {K:PySem.W.Frag} {G:Hp} {so:So} {σ:L2.St} {H:Hp} {sl:DSt} (i:Nat) (rep:Rep K G so σ H sl):∃ G',Post K G so σ H sl H G' (pubSl i sl):=by
  unfold pubSl
  split
  · rename_i o e
    obtain ⟨v,e1,w⟩:=rep.slots i _ e
    obtain ⟨a,qa,g,s,ok⟩:=w
    subst qa
    obtain ⟨u,eu,dk⟩:=alD ok g
    have others:∀ b,Own (sl.set i (some (.d (pubO o)))) σ b->Own sl σ b/\b≠a:=fun b z=>by
      rcases own_set z with ⟨k1,k2⟩ | ⟨k1,j,ne,o',k2,k3⟩
      · exact ⟨k1,fun z=>k2 (z ▸ e1)⟩
      · exact ⟨k1,fun z=>ne (rep.sep j i o' o a k2 e (z ▸ k3) e1)⟩
    refine ⟨upd G a u,{ ex:=Ex.new g,rep:=⟨aik rep.h eu g s,by rw [List.length_set];exact rep.len,fun j d ej=>?_,fun j k o1 o2 b e1' e2' e3 e4=>?_,fun j o1 b e1' e2' z=>?_,fun j o1 z=>?_⟩,keep:=fun _ _ z _=>z,frm:=fun b n1 g1 s1 w=>?_,sub:=fun b z=>(others b z).1,bsub:=fun j o1 z=>?_ }⟩
    · by_cases ji:j=i
      · subst ji
        rw [List.getElem?_set] at ej
        split at ej
        · split at ej
          · cases ej;exact ⟨_,e1,dk⟩
          · cases ej
        · rename_i k;exact absurd rfl k
      · rw [List.getElem?_set_ne (Ne.symm ji)] at ej
        obtain ⟨w',f1,f2⟩:=rep.slots j d ej
        refine ⟨w',f1,SlOk.keep f2 (by first | exact rep.h.ok | exact q.rep.h.ok) (Ex.new g) (fun _ _ z _=>z) fun b o' ed qb=>?_⟩
        subst ed;subst qb
        have z:b≠a:=fun z=>ji (rep.sep j i o' o a ej e (z ▸ f1) e1)
        rw [upd_ne z];exact (rep.nown ⟨j,o',ej,f1⟩).2.1
    · have f:∀ (m:Nat) (o3:OO),(sl.set i (some (.d (pubO o))))[m]?=some (some (.own o3))->sl[m]?=some (some (.own o3)):=fun m o3 em=>by
        rcases get_set em with ⟨_,z⟩ | ⟨_,z⟩
        · cases z
        · exact z
      exact rep.sep j k o1 o2 b (f _ _ e1') (f _ _ e2') e3 e4
    · rcases get_set e1' with ⟨_,y⟩ | ⟨ne,y⟩
      · cases y
      · exact rep.bor j o1 b y e2' (others b z).1
    · rcases get_set z with ⟨_,y⟩ | ⟨ne,y⟩
      · cases y
      · exact rep.nse j o1 y
    · have z:b≠a:=fun z=>w ⟨i,o,e,z ▸ e1⟩
      rw [upd_ne z];exact g1
    · rcases get_set z with ⟨_,y⟩ | ⟨ne,y⟩
      · cases y
      · exact ⟨o1,y⟩
  · exact ⟨G,.refl rep⟩
theorem aqp {X:Cx} {W:WX} {st:Stmt} {t:TDS} {i:Nat} (h:DS X W st t):DS X W st (dPub i t):=adp h fun D σ H ⟨G,so,sl,E,rep,q,ok⟩=>by
  obtain ⟨G',p⟩:=rep.pubS i
  exact ⟨G',so,_,E,p.rep,q,ok.step p.s⟩
structure Sm (b d w:Nat) (x:D):Prop where
  f:Fine b x
  d:dep x<=d
  w:wt b x<=w
structure Sms (b d w:Nat) (xs:List D):Prop where
  f:Fines b xs
  d:deps xs<=d
  w:wts b xs<=w
section
variable {b d w d' w' m:Nat} {x:D} {xs ys:List D}
theorem Sm.mono (h:Sm b d w x) (h1:d<=d') (h2:w<=w'):Sm b d' w' x:=⟨h.f,Nat.le_trans h.d h1,Nat.le_trans h.w h2⟩
theorem Sms.mono (h:Sms b d w xs) (h1:d<=d') (h2:w<=w'):Sms b d' w' xs:=⟨h.f,Nat.le_trans h.d h1,Nat.le_trans h.w h2⟩
theorem acl:Sms b 0 0 []:=⟨by simp [Fines],by simp [deps],by simp [wts]⟩
theorem aao (h:Sm b d w x) (t:Sms b d' w' xs):Sms b (max d d') (w + 2 + w') (x::xs):=⟨fcons h.f t.f,by rw [deps];have:=h.d;have:=t.d;omega,by rw [wts];have:=h.w;have:=t.w;omega⟩
theorem agr (h:∀ x∈xs,Sm b d w x) (hl:xs.length<=m):Sms b d (m * (w + 2)) xs:=by
  induction xs generalizing m with
  | nil=>exact acl.mono (by omega) (by omega)
  | cons x r ih=>
    obtain ⟨k,rfl⟩:∃ k,m=k + 1:=⟨m - 1,by simp at hl;omega⟩
    have z:=ih (m:=k) (fun y hy=>h y (List.mem_cons_of_mem _ hy)) (by simpa using hl)
    have z1:=aao (h x (List.mem_cons_self ..)) z
    refine z1.mono (by omega) ?_
    rw [Nat.succ_mul];omega
theorem ahz (h:Sms b d w xs):Sm b (d + 1) (w + 3) (.tup xs):=⟨ftup h.f,by rw [dep];have:=h.d;omega,by rw [wt];have:=h.w;omega⟩
theorem adD (h:Sms b d w xs):Sm b (d + 1) (w + 3) (.lst xs):=⟨flst h.f,by rw [dep];have:=h.d;omega,by rw [wt];have:=h.w;omega⟩
theorem ahA {i:Int} (h:i.natAbs < 10 ^ b):Sm b 0 (b + 1) (.int i):=⟨fint h,Nat.le_refl _,by rw [wt];omega⟩
theorem ahS {i:Bool}:Sm b 0 5 (.bl i):=⟨fbl,Nat.le_refl _,Nat.le_refl _⟩
theorem anK:Sm b 0 5 .non:=⟨fnon,Nat.le_refl _,Nat.le_refl _⟩
theorem ae6 {z:Str} (h:∀ c∈z.cps.toList,c < 0x110000) (hl:z.length<=m):Sm b 0 (10 * m + 2) (.str z):=⟨fstr h,Nat.le_refl _,by rw [wt];omega⟩
theorem apE {q:Rat} (h1:q.num.natAbs < 10 ^ b) (h2:q.den < 10 ^ b):Sm b 1 (b + b + 9) (rD q):=
  (ahz (aao (ahA h1) (aao (ahA (i:=(q.den:Int)) (by omega)) acl))).mono (by omega) (by omega)
theorem Sm.sh (h:Sm b d w x) (hd:d<=60:=by decide) (hb:0 < b:=by decide) (hb2:b<=500:=by decide):∃ p,x.py=some p/\SeqAt.shaped p=true:=apc h.f (Nat.le_trans h.d hd) hb hb2
theorem aiU {Q:DV->Prop} {E:XE'} {ds es:List D} (he:ds=es) (h:Sms b d w es) (q:Q (.d (.bl true))) (h1:d<=60:=by decide) (h2:w<=16000000:=by decide) (hb:0 < b:=by decide) (hb2:b<=500:=by decide):spSame [.d (.lst ds),.d (.lst es)] Q E:=am2 b he h.f q (Nat.le_trans h.d h1) (Nat.le_trans h.w h2) hb hb2
theorem alt {Q:DV->Prop} {E:XE'} {ds es:List D} (he:ds=es) (h:Sms b d w es) (q:Q (.d (.bl true))) (h1:d<=60:=by decide) (h2:w<=16000000:=by decide) (hb:0 < b:=by decide) (hb2:b<=500:=by decide):spSame [.d (.tup ds),.d (.tup es)] Q E:=am1 b he h.f q (Nat.le_trans h.d h1) (Nat.le_trans h.w h2) hb hb2
end
def okS (z:Str):Prop:=∀ c∈z.cps.toList,c < 0x110000
theorem ahD {x y:Str} (h:okS x) (h2:okS y):okS (x++y):=by
  intro c hc
  have e:(x++y).cps.toList=x.cps.toList++y.cps.toList:=by
    show (x.cps++y.cps).toList=_
    rw [Array.toList_append]
  rw [e] at hc
  rcases List.mem_append.mp hc with hc | hc
  · exact h c hc
  · exact h2 c hc
theorem ad4 (s:String):okS (Str.ofString s):=by
  intro c hc
  rw [Str.ofString_eq_toList] at hc
  have hc':c∈s.toList.map Char.toNat:=hc
  obtain ⟨ch,_,rfl⟩:=List.mem_map.mp hc'
  have:=ch.valid
  have h2:ch.toNat.isValidChar:=this
  rcases h2 with h2 | h2<;>omega
theorem afH (a b:List D):eqD (.lst a) (.lst b)=eqDs a b:=by rw [eqD]
theorem amm (a b:List D):eqD (.tup a) (.tup b)=eqDs a b:=by rw [eqD]
theorem anr (a:List D):eqDs a []=a.isEmpty:=by
  cases a with
  | nil=>rw [eqDs];rfl
  | cons x r=>exact apg (by simp)
theorem aib {args:List DV} (h:∀ x∈args,Lent x\/x=.src) (i:Nat) (o:OO):args[i]?≠some (.see o):=fun e=>by
  rcases h _ (List.mem_of_getElem? e) with (⟨d,y⟩ | ⟨ds,y⟩) | y<;>cases y
mutual
def nk:D->Bool
  | .lst ds=>nks ds
  | .tup ds=>nks ds
  | .kt _=>false
  | _=>true
def nks:List D->Bool
  | []=>true
  | d::r=>nk d && nks r
end
def valD {κ:Type} [DecidableEq κ] (kvs:List (κ × D)) (k:κ):Option D:=(kvs.find? fun kv=>decide (kv.1=k)).map (·.2)
def keyOf:D->Option Key
  | .int i=>some (.inl i)
  | .str z=>some (.inr z)
  | _=>none
theorem aez {κ:Type} [DecidableEq κ] {p:κ × D} {r:List (κ × D)} {k:κ} (e:p.1=k):valD (p::r) k=some p.2:=by simp [valD,List.find?_cons,e]
theorem aeA {κ:Type} [DecidableEq κ] {p:κ × D} {r:List (κ × D)} {k:κ} (e:¬ p.1=k):valD (p::r) k=valD r k:=by simp [valD,List.find?_cons,e]
section
variable {K:PySem.W.Frag} {G H:Hp} {so:So} {v:V} {dv:DV}
theorem FAll.valS {κ:Type} [DecidableEq κ] {k:κ}:∀ {vs:List (κ × V)} {kvs:List (κ × D)} {d:D},FAll K G vs kvs->valD kvs k=some d->∃ v,valV vs k=some v/\DOk K G v d
  | _,_,_,.nil,e=>by cases e
  | _,_,d,.cons (x:=x) h t,e=>by
    by_cases z:x=k
    · rw [aez z] at e;cases e;exact ⟨_,valV_pos z,h⟩
    · rw [aeA z] at e
      obtain ⟨v,e1,e2⟩:=FAll.valS t e
      exact ⟨v,by rw [valV_neg z];exact e1,e2⟩
theorem FAll.valN {κ:Type} [DecidableEq κ] {k:κ}:∀ {vs:List (κ × V)} {kvs:List (κ × D)},FAll K G vs kvs->valD kvs k=none->valV vs k=none
  | _,_,.nil,_=>rfl
  | _,_,.cons (x:=x) h t,e=>by
    by_cases z:x=k
    · rw [aez z] at e;cases e
    · rw [aeA z] at e
      rw [valV_neg z];exact FAll.valN t e
theorem FAll.keys {κ:Type}:∀ {vs:List (κ × V)} {kvs:List (κ × D)},FAll K G vs kvs->vs.map (·.1)=kvs.map (·.1)
  | _,_,.nil=>rfl
  | _,_,.cons _ t=>by rw [List.map_cons,List.map_cons,FAll.keys t]
theorem FAll.len {κ:Type} {vs:List (κ × V)} {kvs:List (κ × D)} (h:FAll K G vs kvs):vs.length=kvs.length:=by
  have:=congrArg List.length h.keys
  simpa using this
theorem akx {d:D} {k:Key} (w:DOk K G v d) (e:keyOf d=some k):v=kV k:=by
  cases w<;>cases e<;>rfl
theorem ao1 (k:Key):DOk K G (kV k) (keyD k):=by
  cases k with
  | inl i=>exact .int i
  | inr z=>exact .str z
def DV.dkv:DV->Option (List (Key × D))
  | .d (.dk k)=>some k
  | .own (.dk k)=>some k
  | .bor (.dk k)=>some k
  | .see (.dk k)=>some k
  | _=>none
theorem VOk.dkr {kvs:List (Key × D)} (h:HRep K G so H) (w:VOk K G so H v dv) (e:dv.dkv=some kvs):∃ a vs,v=.ref a/\Rd H a (.dK vs)/\FAll K G vs kvs:=by
  unfold DV.dkv at e
  split at e
  · cases e
    cases w with
    | dk g f=>exact ⟨_,_,rfl,.inr ⟨_,h.ex _ _ g⟩,f⟩
  · cases e;obtain ⟨a,rfl,_,_,vs,q,r⟩:=w;exact ⟨a,vs,rfl,.inl q,r⟩
  · cases e;obtain ⟨a,rfl,_,o,vs,q,r⟩:=w;exact ⟨a,vs,rfl,.inr ⟨o,q⟩,r⟩
  · cases e;obtain ⟨a,rfl,_,vs,q,r⟩:=w;exact ⟨a,vs,rfl,.inl q,r⟩
  · cases e
end
@[irreducible] def dgetR (x y:DV) (Q:DV->Prop):Prop:=match x.dkv,y with
  | some kvs,.d k=>(match keyOf k with
    | some key=>(match valD kvs key with
      | some d=>Q (.d d)
      | none=>False)
    | none=>False)
  | _,_=>False
@[irreducible] def dinR (neg:Bool) (x y:DV) (Q:DV->Prop):Prop:=match x,y.dkv with
  | .d k,some kvs=>(match keyOf k with
    | some key=>Q (.d (.bl (if neg then !(valD kvs key).isSome else (valD kvs key).isSome)))
    | none=>False)
  | _,_=>False
section
variable {X:Cx} {W:WX} {a b:Expr} {ta tb:TD} {pos:Pos}
theorem afI (hu:X.A.units + 64 < cLine) (ha:DE X W a ta) (hb:DE X W b tb) (hs:NoSl b:=by exact fun _ _=>rfl):DE X W (.Subscript a b pos) (dOp dgetR ta tb):=by
  refine aaD (pe_dget (by omega) ha hb hs) fun σ H R ⟨G,so,sl,Q,E,rep,q,hq,hx⟩=>?_
  refine ⟨G,so,sl,_,E,rep,q,fun x H1 G1 dx s1 p1 h1=>?_,hx⟩
  refine ⟨G1,so,s1,_,E,p1.rep,h1,fun y H2 G2 dy s2 p2 h2=>?_,hx.step p1.toPost⟩
  unfold dgetR at h2
  split at h2
  · rename_i kvs k e
    split at h2
    · rename_i key ek
      split at h2
      · rename_i d ed
        obtain ⟨c,vs,rfl,rd,fa⟩:=VOk.dkr p2.rep.h (p1.over p2.toPost) e
        obtain ⟨v,e1,e2⟩:=fa.valS ed
        have ey:=akx (show DOk X.K G2 y k from p2.val) ek
        exact ⟨c,v,rfl,.inl ⟨vs,key,rd,ey,e1.symm⟩,hq v H2 G2 _ s2 ((p1.toPost.trans p2.toPost).thenV (.dat p2.rep.h e2)) h2⟩
      · exact h2.elim
    · exact h2.elim
  · exact h2.elim
theorem aqu (hu:X.A.units + 64 < cLine) (ha:DE X W a ta) (hb:DE X W b tb) (hm:behindInMarks .In b=false:=by rfl):DE X W (.Compare a [.In] [b] pos) (dOp (dinR false) ta tb):=by
  refine aaD (pe_cmp (pc_din (by omega) ha hb) hm) fun σ H R ⟨G,so,sl,Q,E,rep,q,hq,hx⟩=>?_
  refine ⟨G,so,sl,_,E,rep,q,fun x H1 G1 dx s1 p1 h1=>?_,hx⟩
  refine ⟨G1,so,s1,_,E,p1.rep,h1,fun y H2 G2 dy s2 p2 h2=>?_,hx.step p1.toPost⟩
  unfold dinR at h2
  split at h2
  · rename_i k kvs e
    split at h2
    · rename_i key ek
      obtain ⟨c,vs,rfl,rd,fa⟩:=VOk.dkr p2.rep.h p2.val e
      have ey:=akx (show DOk X.K G2 x k from p1.over p2.toPost) ek
      have e1:(valV vs key).isSome=(valD kvs key).isSome:=by
        cases z:valD kvs key with
        | none=>rw [fa.valN z];rfl
        | some d=>obtain ⟨v,e1,_⟩:=fa.valS z;rw [e1];rfl
      refine ⟨c,valV vs key,rfl,.inl ⟨vs,key,rd,ey,rfl⟩,?_⟩
      rw [e1]
      exact hq _ H2 G2 _ s2 ((p1.toPost.trans p2.toPost).thenV (.dat p2.rep.h (.bl _))) h2
    · exact h2.elim
  · exact h2.elim
theorem ak8 {X:Cx}:CallR X (.builtin "len") (fun xs H Q=>∃ a kvs,xs=[V.ref a]/\Rd H a (.dK kvs)/\Q (.int kvs.length) H):=by
  intro pins s σ H xs us Q I r h
  obtain ⟨a,kvs,rfl,rd,q⟩:=h
  obtain rfl:=Vals.ref1 r
  exact d_len I rd fun t s' I'=>⟨.int _,H,I',⟨t,rfl⟩,q⟩
end
section
variable {K:PySem.W.Frag}
@[irreducible] def lenDR:List DV->(DV->Prop)->Prop
  | [v],Q=>(match v.dkv with
    | some kvs=>Q (.d (.int kvs.length))
    | none=>False)
  | _,_=>False
theorem alm:CallSem K (fun xs H Q=>∃ a kvs,xs=[V.ref a]/\Rd H a (.dK kvs)/\Q (.int kvs.length) H) lenDR:=by
  intro G so H xs dxs Q R h w q k
  unfold lenDR at q
  split at q
  · obtain ⟨v,rfl,w1,_⟩:=w.v1
    split at q
    · rename_i kvs e
      obtain ⟨c,vs,rfl,rd,fa⟩:=VOk.dkr h w1 e
      refine ⟨c,vs,rfl,rd,k _ H G _ (.dat h (.int _)) ?_⟩
      rw [fa.len];exact q
    · exact q.elim
  · exact q.elim
theorem DAll.strs {G:Hp}:∀ (ys:List Str),DAll K G (ys.map V.str) (ys.map D.str)
  | []=>.nil
  | y::r=>.cons (.str y) (DAll.strs r)
@[irreducible] def sortDR:List DV->(DV->Prop)->Prop
  | [v],Q=>(match v.dkv with
    | some kvs=>∃ ks:List Str,kvs.map (·.1)=ks.map Sum.inr/\ks.length < 64/\∀ ys:List Str,ys.Perm ks->sortedS ys=true->Q (.own (.lst (ys.map .str)))
    | none=>False)
  | _,_=>False
theorem agt:CallSem K (fun xs H Q=>∃ (a:Addr) (kvs:List (Key × V)) (ks:List Str),xs=[.ref a]/\Rd H a (.dK kvs)/\kvs.map (·.1)=ks.map Sum.inr/\ks.length < 64/\
    ∀ ys p,ys.Perm ks->sortedS ys=true->H p=none->Q (.ref p) (upd H p (.lst (ys.map V.str)))) sortDR:=by
  intro G so H xs dxs Q R h w q k
  unfold sortDR at q
  split at q
  · obtain ⟨v,rfl,w1,_⟩:=w.v1
    split at q
    · rename_i kvs e
      obtain ⟨c,vs,rfl,rd,fa⟩:=VOk.dkr h w1 e
      obtain ⟨ks,e1,e2,q⟩:=q
      exact ⟨c,vs,ks,rfl,rd,by rw [fa.keys];exact e1,e2,fun ys p hp hs n=>k _ _ G _ (.list h n (DAll.strs ys)) (q ys hp hs)⟩
    · exact q.elim
  · exact q.elim
@[irreducible] def sortSR:List DV->(DV->Prop)->Prop
  | [v],Q=>(match v.items with
    | some ds=>(match strsD ds with
      | some ks=>ks.length < 64/\∀ ys:List Str,ys.Perm ks->sortedS ys=true->Q (.own (.lst (ys.map .str)))
      | none=>False)
    | none=>False)
  | _,_=>False
theorem ali:CallSem K (rSortedS K) sortSR:=by
  intro G so H xs dxs Q R h w q k
  unfold sortSR at q
  split at q
  · obtain ⟨v,rfl,w1,_⟩:=w.v1
    split at q
    · rename_i ds e
      obtain ⟨c,vs,rfl,g1,a1⟩:=VOk.list h w1 e
      split at q
      · rename_i ks e2
        refine ⟨c,ks,rfl,by rw [<- agq a1 e2];exact SqL.of g1,q.1,fun ys p hp hs n=>k _ _ G _ (.list h n (DAll.strs ys)) (q.2 ys hp hs)⟩
      · exact q.elim
    · exact q.elim
  · exact q.elim
@[irreducible] def anyR:List DV->(DV->Prop)->Prop
  | [v],Q=>(match v.items with
    | some ds=>(match bools ds with
      | some bs=>Q (.d (.bl (bs.any id)))
      | none=>False)
    | none=>False)
  | _,_=>False
theorem aol:CallSem K (rAny K) anyR:=by
  intro G so H xs dxs Q R h w q k
  unfold anyR at q
  split at q
  · obtain ⟨v,rfl,w1,_⟩:=w.v1
    split at q
    · rename_i e
      obtain ⟨a,vs,rfl,g1,a1⟩:=VOk.list h w1 e
      split at q
      · rename_i bs eb
        exact ⟨a,bs,rfl,by rw [<- aiv a1 eb];exact SqL.of g1,k _ H G _ (.dat h (.bl _)) q⟩
      · exact q.elim
    · exact q.elim
  · exact q.elim
def isNonD:D->Option Bool
  | .non=>some true
  | .any=>none
  | .raw _=>none
  | _=>some false
@[irreducible] def isNR (neg:Bool):DV->DV->(DV->Prop)->Prop
  | x,.d .non,Q=>(match x.dat with
    | some d=>(match isNonD d with
      | some b=>Q (.d (.bl (if neg then !b else b)))
      | none=>False)
    | none=>False)
  | _,_,_=>False
theorem aqd {G H:Hp} {so:So} {v:V} {dv:DV} {d:D} {b:Bool} (w:VOk K G so H v dv) (e:dv.dat=some d) (q:isNonD d=some b):decide (v=.non)=b:=by
  have ow:∀ {o:OO},isNonD (pubO o)=some b->b=false:=fun {o} z=>by cases o<;>cases z<;>rfl
  cases dv with
  | src=>cases e
  | mu _ _ _=>cases e
  | gh _ _=>cases e
  | own o=>cases e;obtain ⟨a,rfl,_⟩:=w;rw [ow q];rfl
  | bor o=>cases e;obtain ⟨a,rfl,_⟩:=w;rw [ow q];rfl
  | see o=>cases e;obtain ⟨a,rfl,_⟩:=w;rw [ow q];rfl
  | d x=>
    cases e
    cases w<;>cases q<;>rfl
end
section
variable {K:PySem.W.Frag}
theorem ahT:OpSem K (fun x y H Q=>y=.non/\Q (.bl (!decide (x=.non))) H) (isNR true):=by
  intro G so H x y dx dy Q R h wx wy q k
  unfold isNR at q
  split at q
  · cases wy
    split at q
    · rename_i d e
      split at q
      · rename_i b eb
        refine ⟨rfl,?_⟩
        rw [aqd wx e eb]
        exact k _ H G _ (.dat h (.bl _)) q
      · exact q.elim
    · exact q.elim
  · exact q.elim
theorem al4 {n b:Bool} {x:DV} {d:D} {Q:DV->Prop} (e:x.dat=some d) (h:isNonD d=some b) (q:Q (.d (.bl (if n then !b else b)))):isNR n x (.d .non) Q:=by
  unfold isNR
  dsimp only
  rw [e]
  dsimp only
  rw [h];exact q
theorem adI {x:DV} {kvs:List (Key × D)} {k:D} {key:Key} {d:D} {Q:DV->Prop} (h1:x.dkv=some kvs) (h2:keyOf k=some key) (h3:valD kvs key=some d) (q:Q (.d d)):dgetR x (.d k) Q:=by
  unfold dgetR
  rw [h1]
  dsimp only
  rw [h2]
  dsimp only
  rw [h3];exact q
theorem l_din {n:Bool} {x:DV} {kvs:List (Key × D)} {k:D} {key:Key} {Q:DV->Prop} (h1:x.dkv=some kvs) (h2:keyOf k=some key) (q:Q (.d (.bl (if n then !(valD kvs key).isSome else (valD kvs key).isSome)))):dinR n (.d k) x Q:=by
  unfold dinR
  rw [h1]
  dsimp only
  rw [h2];exact q
theorem al1 {x:DV} {kvs:List (Key × D)} {Q:DV->Prop} (h1:x.dkv=some kvs) (q:Q (.d (.int kvs.length))):lenDR [x] Q:=by
  unfold lenDR
  dsimp only
  rw [h1];exact q
theorem agM {x:DV} {kvs:List (Key × D)} {ks:List Str} {Q:DV->Prop} (h1:x.dkv=some kvs) (h2:kvs.map (·.1)=ks.map Sum.inr) (h3:ks.length < 64) (q:∀ ys:List Str,ys.Perm ks->sortedS ys=true->Q (.own (.lst (ys.map .str)))):sortDR [x] Q:=by
  unfold sortDR
  dsimp only
  rw [h1];exact ⟨ks,h2,h3,q⟩
theorem aoO {x:DV} {ds:List D} {ks:List Str} {Q:DV->Prop} (h1:x.items=some ds) (h2:strsD ds=some ks) (h3:ks.length < 64) (q:∀ ys:List Str,ys.Perm ks->sortedS ys=true->Q (.own (.lst (ys.map .str)))):sortSR [x] Q:=by
  unfold sortSR
  dsimp only
  rw [h1]
  dsimp only
  rw [h2];exact ⟨h3,q⟩
theorem l_any {v:DV} {ds:List D} {bs:List Bool} {Q:DV->Prop} (hv:v.items=some ds) (hb:bools ds=some bs) (q:Q (.d (.bl (bs.any id)))):anyR [v] Q:=by
  unfold anyR
  dsimp only
  rw [hv]
  dsimp only
  rw [hb];exact q
end
def putKD {κ:Type} [DecidableEq κ] (kvs:List (κ × D)) (k:κ) (d:D):List (κ × D):=if (kvs.any fun kv=>decide (kv.1=k))=true then kvs.map fun kv=>if kv.1=k then (kv.1,d) else kv else kvs++[(k,d)]
section
variable {K:PySem.W.Frag} {G:Hp}
theorem FAll.any_eq {κ:Type} [DecidableEq κ] (k:κ):∀ {vs:List (κ × V)} {kvs:List (κ × D)},FAll K G vs kvs->(vs.any fun kv=>decide (kv.1=k))=kvs.any fun kv=>decide (kv.1=k)
  | _,_,.nil=>rfl
  | _,_,.cons _ t=>by rw [List.any_cons,List.any_cons,FAll.any_eq k t]
theorem FAll.app {κ:Type}:∀ {vs ws:List (κ × V)} {kvs mvs:List (κ × D)},FAll K G vs kvs->FAll K G ws mvs->FAll K G (vs++ws) (kvs++mvs)
  | _,_,_,_,.nil,h=>h
  | _,_,_,_,.cons a t,h=>.cons a (FAll.app t h)
theorem FAll.repl {κ:Type} [DecidableEq κ] {k:κ} {v:V} {d:D} (w:DOk K G v d):∀ {vs:List (κ × V)} {kvs:List (κ × D)},FAll K G vs kvs->FAll K G (vs.map fun kv=>if kv.1=k then (kv.1,v) else kv) (kvs.map fun kv=>if kv.1=k then (kv.1,d) else kv)
  | _,_,.nil=>.nil
  | _,_,.cons (x:=x) h t=>by
    rw [List.map_cons,List.map_cons]
    by_cases z:x=k
    · rw [if_pos z,if_pos z];exact .cons w (FAll.repl w t)
    · rw [if_neg z,if_neg z];exact .cons h (FAll.repl w t)
theorem FAll.putK {κ:Type} [DecidableEq κ] {k:κ} {v:V} {d:D} {vs:List (κ × V)} {kvs:List (κ × D)} (h:FAll K G vs kvs) (w:DOk K G v d):FAll K G (L2.putK vs k v) (putKD kvs k d):=by
  unfold L2.putK putKD
  rw [h.any_eq k]
  split
  · exact h.repl w
  · exact h.app (.cons w .nil)
end
def dDNew:TD:=fun sl Q _=>Q (.own (.dk [])) sl
section
variable {X:Cx} {W:WX} {pos pos':Pos} {o k value:Expr} {te tk:TD} {i:Nat}
theorem PostV.dct {K:PySem.W.Frag} {G H:Hp} {so:So} {p:Addr} {vs:List (Key × V)} {kvs:List (Key × D)} (h:HRep K G so H) (n:H p=none) (a:FAll K G vs kvs):PostV K G so H (.ref p) (upd H p (.dK vs)) G (.own (.dk kvs)):=
  ⟨Ex.refl G,h.alloc n,fun _ _ e _=>Ex.new n _ _ e,fun _ _ g _=>g,⟨p,rfl,h.ex.free n,h.there n,vs,upd_same,a⟩,fun b o e q=>(by cases q;exact n),fun _ e=>(nomatch e)⟩
theorem apq:DE X W (.Dict [] [] pos) dDNew:=aaD pe_dnewK fun σ H R ⟨G,so,sl,Q,E,rep,q,hq,_⟩ p n=>
  hq _ _ G _ sl ((Post.refl rep).thenV (.dct rep.h n .nil)) q
def dDPut (te tk:TD) (i:Nat):TDS:=fun E sl=>te sl (fun y s1=>(∃ kvs,s1[i]?=some (some (.own (.dk kvs))))/\tk s1 (fun z s2=>match s2[i]?,pubV y,z with
  | some (some (.own (.dk kvs))),.d d,.d kd=>(match keyOf kd with
    | some key=>kvs.length < szl/\E.nx (s2.set i (some (.own (.dk (putKD kvs key d)))))
    | none=>False)
  | _,_,_=>False) E.xc) E.xc
theorem amq (hu:X.A.units + 64 < cLine) (ho:PE X o (tVar i)) (hk:DE X W k tk) (hv:DE X W value te) (hs:swapsWith value (some (.Subscript o k pos')) pos.line X.env=pure false:=by rfl) :
    DS X W (.Assign [.Subscript o k pos'] value pos) (dDPut te tk i):=by
  refine adp (ps_dput (by omega) ho hk hv hs) fun D σ H ⟨G,so,sl,E,rep,q,ok⟩=>?_
  refine ⟨G,so,sl,_,E.xc,rep,q,fun v H1 G1 dv s1 p1 z=>?_,ok.xc.ex⟩
  obtain ⟨G2,p2⟩:=p1.pub
  obtain ⟨⟨kvs0,e0⟩,z⟩:=z
  obtain ⟨v0,f0,a,rfl,ga,sa,vs0,h0,d0⟩:=p2.rep.slots i _ e0
  refine ⟨.ref a,f0,G2,so,s1,_,E.xc,p2.rep,z,fun y H3 G3 dk s3 p3 z3=>?_,(ok.step p2.toPost.s).xc.ex⟩
  split at z3
  · rename_i kvs d kd e1 e2
    split at z3
    · rename_i key ek
      obtain ⟨l,z3⟩:=z3
      obtain ⟨v1,f1,b,rfl,gb,sb,vs,h1,h2⟩:=p3.rep.slots i _ e1
      rw [f0] at f1
      cases f1
      have wv:DOk X.K G3 v d:=by
        have:=p2.over p3.toPost
        rw [e2] at this;exact this
      have ey:=akx (show DOk X.K G3 y kd from p3.val) ek
      refine ⟨a,_,rfl,.inl ⟨vs,key,h1,ey,by rw [h2.len,<- acM];exact l,rfl⟩,?_⟩
      exact ok.nx σ _ G3 _ ((p2.toPost.trans p3.toPost).s.trans (PostS.mut (o':=.dk (putKD kvs key d)) p3.rep e1 f0 ⟨_,upd_same,h2.putK wv⟩)) z3
    · exact z3.elim
  · exact z3.elim
end
theorem aoy {X:Cx} {st:Stmt} {t:TS} (h:PS X st t):PS X st (fun D σ H=>t { D with rt:=fun v H'=>∃ d u,H' d=some u/\Mut (some u)/\∀ od,D.rt v (upd H' d (.frz od u)) } σ H):=by
  refine ⟨fun pins s σ H D I hw=>thn (h.run pins s σ H _ I hw) fun f s1 q=>?_⟩
  cases f with
  | next=>exact q
  | brk=>exact q
  | cont=>exact q
  | ret v=>
    obtain ⟨x,σ',H',I2,r,d,u,hd,mu,q⟩:=q
    obtain ⟨od,I3⟩:=I2.lock hd mu
    exact ⟨x,σ',_,I3,r,q od⟩
theorem ajG {X:Cx} {e:Expr} {t:TE} (h:PE X e t):PE X e (fun σ H Q=>t σ H fun v H'=>∃ d u,H' d=some u/\Mut (some u)/\∀ od,Q v (upd H' d (.frz od u))):=by
  refine ⟨fun pins s σ H Q I hw=>thn (h.run pins s σ H _ I hw) fun v s1 ⟨x,H1,I2,r,d,u,hd,mu,q⟩=>?_⟩
  obtain ⟨od,I3⟩:=I2.lock hd mu
  exact ⟨x,_,I3,r,q od⟩
def dRetD (i:Nat):TDS:=fun E sl=>∃ kvs,sl[i]?=some (some (.own (.dk kvs)))/\E.rt (.d (.dk kvs)) sl
theorem afi {K:PySem.W.Frag} {G H:Hp} {so:So} {a:Addr} {u:HO} (h:HRep K G so H) (g:G a=none) (s:so.Nt a):HRep K (upd G a u) so (upd H a u):=
  ⟨h.ex.up,fun b k q=>by
    have z:b≠a:=fun z=>s (z ▸ ⟨k,q⟩)
    exact (h.vol b k q).keep (Ex.new g) (by rw [upd_ne z];exact (h.vol b k q).g) (upd_ne z),h.ok,ajv h.tp⟩
theorem aph {X:Cx} {W:WX} {i:Nat} {e:Expr} {pos:Pos} (h:PE X e (tVar i)):DS X W (.Return (some e) pos) (dRetD i):=by
  refine adp (aoy (ps_ret h)) fun D σ H ⟨G,so,sl,E,rep,⟨kvs,e,q⟩,ok⟩=>?_
  obtain ⟨v,e1,a,rfl,ga,sa,vs,ha,fa⟩:=rep.slots i _ e
  have oa:Own sl σ a:=⟨i,_,e,e1⟩
  refine ⟨.ref a,e1,a,.dK vs,ha,trivial,fun od=>?_⟩
  refine ok.rt _ _ (upd G a (.frz od (.dK vs))) (.d (.dk kvs)) sl ⟨Ex.new ga,afi rep.h ga sa,fun b o eb sb nb=>?_,fun b n1 g1 sb nb=>?_,.dk upd_same (fa.mono (Ex.new ga)),fun _ _ z=>(nomatch z),fun i x C fs ei=>by
    obtain ⟨v,_,w⟩:=rep.slots i _ ei
    exact (SlOk.muU w (Ex.new ga) sa).2.2⟩ q
  · rw [upd_ne (fun z=>nb (by rw [z];exact oa))];exact eb
  · rw [upd_ne (fun z=>nb (by rw [z];exact oa))];exact g1
def pairsD:List D->Option (List (Key × D))
  | []=>some []
  | .tup [k,d]::r=>(match keyOf k,pairsD r with
    | some key,some ps=>some ((key,d)::ps)
    | _,_=>none)
  | _=>none
def mergeD (kvs more:List (Key × D)):List (Key × D):=more.foldl (fun acc kv=>putKD acc kv.1 kv.2) kvs
section
variable {K:PySem.W.Frag} {G H:Hp}
theorem FAll.merge:∀ {ws:List (Key × V)} {mvs:List (Key × D)} {vs:List (Key × V)} {kvs:List (Key × D)},FAll K G ws mvs->FAll K G vs kvs->FAll K G (mergeK vs ws) (mergeD kvs mvs)
  | _,_,_,_,.nil,h=>h
  | _,_,_,_,.cons (x:=x) (v:=v) (d:=d) (vs:=ws) (ds:=ms) a t,h=>show FAll K G (mergeK (L2.putK _ x v) ws) (mergeD (putKD _ x d) ms) from FAll.merge t (h.putK a)
theorem ah1 (ex:Ex G H):∀ {vs:List V} {ds:List D} {kvs:List (Key × D)},DAll K G vs ds->pairsD ds=some kvs->∃ (ps:List Addr) (ws:List (Key × V)),vs=ps.map V.ref/\Paired (fun p kv=>SqT K H p [kV kv.1,kv.2]) ps ws/\FAll K G ws kvs
  | _,_,_,.nil,e=>by cases e;exact ⟨[],[],rfl,.nil,.nil⟩
  | _,_,_,.cons (d:=d) h t,e=>by
    unfold pairsD at e
    split at e
    · rename_i z;cases z
    · rename_i k d' r z
      cases z
      split at e
      · rename_i key ps ek ep
        cases e
        cases h with
        | tup g al=>
          cases al with
          | cons w1 al=>
            cases al with
            | cons w2 al=>
              cases al
              obtain ⟨as,ws,rfl,h2,h3⟩:=ah1 ex t ep
              have e1:=akx w1 ek
              subst e1
              exact ⟨_::as,(key,_)::ws,rfl,.cons (ex_t ex g) h2,.cons w2 h3⟩
      · cases e
    · cases e
end
@[irreducible] def dictPR:List DV->(DV->Prop)->Prop
  | [v],Q=>(match v.items with
    | some ds=>(match pairsD ds with
      | some kvs=>Q (.d (.dk (mergeD [] kvs)))
      | none=>False)
    | none=>False)
  | _,_=>False
def dDictP (ta:TDA):TD:=dCB dictPR ta
theorem aoX {v:DV} {ds:List D} {kvs:List (Key × D)} {Q:DV->Prop} (h1:v.items=some ds) (h2:pairsD ds=some kvs) (q:Q (.d (.dk (mergeD [] kvs)))):dictPR [v] Q:=by
  unfold dictPR
  dsimp only
  rw [h1]
  dsimp only
  rw [h2];exact q
theorem anw {X:Cx} {W:WX} {a:Expr} {ta:TDA} {p pos:Pos} (hc:X.calm=true) (hg:Gl X "dict") (hm:X.mg "dict"=none) (ha:DA X W [a] ta) (he:starEach [a] X.env=(false,eval a X.env)::starEach [] X.env:=by rfl) (hpl:(backTo pos (starEach [] X.env)).any (·.1)=false:=by rfl):DE X W (.Call (.Name "dict" p) [a] [] pos) (dDictP ta):=by
  refine aaD (ajG (pe_callTy (call_dictP hc) hg hm (by decide +kernel) ha (by decide) (by decide) he hpl)) fun σ H R ⟨G,so,sl,Q,E,rep,q,hq,hx⟩=>?_
  refine ⟨G,so,sl,_,E,rep,q,fun vs H1 G1 ds s1 p1 w h1=>?_,hx⟩
  unfold dictPR at h1
  split at h1
  · obtain ⟨v,rfl,w1,_⟩:=w.v1
    split at h1
    · rename_i es e
      split at h1
      · rename_i kvs ek
        obtain ⟨c,ws,rfl,g1,a1⟩:=VOk.list p1.rep.h w1 e
        obtain ⟨ps,ms,rfl,h2,h3⟩:=ah1 p1.rep.h.ex a1 ek
        refine ⟨c,ps,ms,rfl,SqL.of g1,h2,fun l n=>⟨l,_,upd_same,trivial,fun od=>?_⟩⟩
        have gl:G1 l=none:=p1.rep.h.ex.free n
        have sl':so.Nt l:=p1.rep.h.there n
        have e2:upd (upd H1 l (.dK (mergeK [] ms))) l (.frz od (.dK (mergeK [] ms)))=upd H1 l (.frz od (.dK (mergeK [] ms))):=upd_upd
        rw [e2]
        refine hq _ _ (upd G1 l (.frz od (.dK (mergeK [] ms)))) (.d (.dk (mergeD [] kvs))) s1 (p1.thenV ⟨Ex.new gl,afi p1.rep.h gl sl',fun b o eb sb=>?_,fun b n1 g sb=>?_,.dk upd_same ((FAll.merge h3 .nil).mono (Ex.new gl)),fun _ _ z=>(nomatch z),fun _ z=>(nomatch z)⟩) h1
        · rw [upd_ne (ne_of_none eb n)];exact eb
        · rw [upd_ne (fun z=>n1 (by rw [z];exact n))];exact g
      · exact h1.elim
    · exact h1.elim
  · exact h1.elim
@[irreducible] def keysR (x:DV) (P:List D->Prop):Prop:=match x with
  | .d (.dk kvs)=>P (kvs.map fun kv=>keyD kv.1)
  | .bor (.dk kvs)=>P (kvs.map fun kv=>keyD kv.1)
  | _=>False
def dKeys (te:TD):TDI:=fun sl Q E=>te sl (fun x s1=>keysR x fun ds=>Q ds s1) E
theorem amc {K:PySem.W.Frag} {G H:Hp} {so:So} {σ:L2.St} {sl:DSt} {c:Addr} {o:Obj} {vs:List (Key × V)} {kvs:List (Key × D)} (e:H c=some (.frz o (.dK vs))) (fa:FAll K G vs kvs) (s:so.Nt c) (n:¬ Own sl σ c):ItD K G so σ H sl (Itk c o vs) (kvs.map fun kv=>keyD kv.1):=by
  have hl:vs.length=kvs.length:=fa.len
  refine ⟨[c],fun a ha=>?_,fun i H1 hi k=>?_,fun H1 k=>?_,fun i H1 x H2 G1 k g h1 y hi=>?_⟩
  · obtain rfl:a=c:=by simpa using ha
    exact ⟨by rw [e];simp,s,n⟩
  · rw [List.length_map] at hi
    exact ⟨by rw [k c (by simp)];exact e,by omega⟩
  · rw [List.length_map]
    exact ⟨by rw [k c (by simp)];exact e,by omega⟩
  · obtain ⟨rfl,key,v,e1,rfl⟩:=y
    have e2:(kvs.map fun kv=>keyD kv.1)[i]?=some (keyD key):=by
      have z:=congrArg (fun l=>l[i]?) fa.keys
      simp only [List.getElem?_map] at z ⊢
      rw [e1] at z
      cases q:kvs[i]? with
      | none=>rw [q] at z;cases z
      | some p=>rw [q] at z;cases p;simp at z;simp [z]
    exact ⟨_,G1,e2,.dat h1 (ao1 key)⟩
theorem apm {X:Cx} {W:WX} {tg e:Expr} {te:TD} (h:DE X W e te):DI X W tg e (dKeys te):=by
  refine alC (pi_keys h) fun σ H R ⟨G,so,sl,Q,E,rep,q,hq,hx⟩=>?_
  refine ⟨G,so,sl,_,E,rep,q,fun x H1 G1 dx s1 p1 h1=>?_,hx⟩
  unfold keysR at h1
  split at h1
  · have w:DOk X.K G1 x (.dk _):=p1.val
    cases w with
    | dk g fa=>exact ⟨_,_,rfl,.inl ⟨_,p1.rep.h.ex _ _ g,hq _ H1 G1 _ s1 p1.toPost (amc (p1.rep.h.ex _ _ g) fa (p1.rep.h.nsrc g) (aow p1.rep g)) h1⟩⟩
  · obtain ⟨a,rfl,sa,o,vs,g,fa⟩:=p1.val
    exact ⟨_,_,rfl,.inl ⟨_,g,hq _ H1 G1 _ s1 p1.toPost (amc g fa sa (p1.sepv a _ (.inr rfl) rfl)) h1⟩⟩
  · exact h1.elim
theorem al2 {kvs:List (Key × D)} {P:List D->Prop} (q:P (kvs.map fun kv=>keyD kv.1)):keysR (.bor (.dk kvs)) P:=by unfold keysR;exact q
def dBorD (i:Nat) (t:TD):TD:=fun sl Q _=>∃ kvs,sl[i]?=some (some (.own (.dk kvs)))/\t (sl.set i (some (.bor (.dk kvs)))) (fun v s1=>s1[i]?=some (some (.bor (.dk kvs)))/\keepR v/\Q v (s1.set i (some (.own (.dk kvs))))) (fun _ _ _=>False)
section
variable {K:PySem.W.Frag} {G H:Hp} {so:So} {σ:L2.St} {sl:DSt} {i:Nat} {a:Addr} {kvs:List (Key × D)} {vs:List (Key × V)} {od:Obj}
theorem adP {b:Addr} {o:OO} (h:Own (sl.set i (some (.bor o))) σ b):Own sl σ b/\∃ j o',j≠i/\sl[j]?=some (some (.own o'))/\σ[j]?=some (some (.ref b)):=by
  obtain ⟨j,o',e1,e2⟩:=h
  rcases get_set e1 with ⟨_,z⟩ | ⟨ne,z⟩
  · cases z
  · exact ⟨⟨j,o',z,e2⟩,j,o',ne,z,e2⟩
theorem Rep.borD (rep:Rep K G so σ H sl) (e:sl[i]?=some (some (.own (.dk kvs)))) (e1:σ[i]?=some (some (.ref a))) (ga:G a=none) (sa:so.Nt a) (ha:H a=some (.dK vs)) (fa:FAll K G vs kvs) :
    Rep K G so σ (upd H a (.frz od (.dK vs))) (sl.set i (some (.bor (.dk kvs))))/\¬ Own (sl.set i (some (.bor (.dk kvs)))) σ a:=by
  have hi:i < sl.length:=(List.getElem?_eq_some_iff.mp e).1
  have oa:Own sl σ a:=⟨i,_,e,e1⟩
  have na:¬ Own (sl.set i (some (.bor (.dk kvs)))) σ a:=fun z=>by
    obtain ⟨_,j,o',ne,z1,z2⟩:=adP z
    exact ne (rep.sep j i o' _ a z1 e z2 e1)
  refine ⟨⟨⟨fun b o q=>?_,fun b k q=>?_,rep.h.ok,aea rep.h.tp (by intro _ z;cases z)⟩,by rw [List.length_set];exact rep.len,fun j d ej=>?_,fun j k o1 o2 b q1 q2 q3 q4=>?_,fun j o1 b q1 q2 z=>?_,fun j o1 z=>?_⟩,na⟩
  · rw [upd_ne (fun z=>by rw [z,ga] at q;cases q)];exact rep.h.ex b o q
  · exact (rep.h.vol b k q).keep (Ex.refl _) (rep.h.vol b k q).g (upd_ne fun z=>sa (z ▸ ⟨k,q⟩))
  · rcases get_set ej with ⟨rfl,z⟩ | ⟨ne,z⟩
    · cases z;exact ⟨_,e1,a,rfl,sa,od,vs,upd_same,fa⟩
    · obtain ⟨v,f1,f2⟩:=rep.slots j d z
      refine ⟨v,f1,?_⟩
      cases d with
      | d x=>exact f2
      | src=>exact f2
      | own o=>
        obtain ⟨b,rfl,g1,s1,k⟩:=f2
        have ab:b≠a:=fun q=>ne (rep.sep j i o _ a z e (q ▸ f1) e1)
        exact ⟨b,rfl,g1,s1,k.keep (Ex.refl _) (upd_ne ab)⟩
      | bor o=>
        obtain ⟨b,rfl,s1,k⟩:=f2
        have ab:b≠a:=fun q=>rep.bor j o b z f1 (q ▸ oa)
        exact ⟨b,rfl,s1,k.keep (Ex.refl _) (upd_ne ab)⟩
      | see o=>exact absurd z (rep.nse j o)
      | mu y D gs=>exact SlOk.muU f2 (Ex.refl _) sa
      | gh _ _=>exact SlOk.ghU f2 (Ex.refl _) sa
  · rcases get_set q1 with ⟨_,z⟩ | ⟨_,z1⟩
    · cases z
    · rcases get_set q2 with ⟨_,z⟩ | ⟨_,z2⟩
      · cases z
      · exact rep.sep j k o1 o2 b z1 z2 q3 q4
  · rcases get_set q1 with ⟨rfl,y⟩ | ⟨ne,y⟩
    · rw [e1] at q2;cases q2;exact na z
    · exact rep.bor j o1 b y q2 (adP z).1
  · rcases get_set z with ⟨_,y⟩ | ⟨ne,y⟩
    · cases y
    · exact rep.nse j o1 y
theorem aps {X:Cx} {W:WX} {e:Expr} {t:TD} (h:DE X W e t):DE X W e (dBorD i t):=by
  refine aaD (pe_lock h) fun σ H R ⟨G,so,sl,Q,E,rep,⟨kvs,e,q⟩,hq,hx⟩=>?_
  obtain ⟨v,e1,a,rfl,ga,sa,vs,ha,fa⟩:=rep.slots i _ e
  have hi:i < sl.length:=(List.getElem?_eq_some_iff.mp e).1
  have oa:Own sl σ a:=⟨i,_,e,e1⟩
  refine ⟨a,.dK vs,ha,trivial,fun od=>?_⟩
  obtain ⟨rep',na⟩:=rep.borD (od:=od) e e1 ga sa ha fa
  have up_a:∀ b,b≠a->upd H a (.frz od (.dK vs)) b=H b:=fun b n=>upd_ne n
  refine ⟨G,so,_,_,_,rep',q,fun v H' G' dv sl' p z=>?_,fun _ _ _ _ _ _ _ _ z=>z.elim⟩
  obtain ⟨z0,z1,z2⟩:=z
  have hi':i < sl'.length:=(List.getElem?_eq_some_iff.mp z0).1
  have g':G' a=none:=p.frm a (by rw [upd_same];simp) ga sa na
  have h':H' a=some (.frz od (.dK vs)):=p.keep a _ upd_same sa
  have nown:¬ Own sl' σ a:=fun w=>na (p.sub a w)
  have nbor:∀ (j:Nat) (o:OO),j≠i->sl'[j]?=some (some (.bor o))->σ[j]?≠some (some (.ref a)):=fun j o ne q1 q2=>by
    obtain ⟨o',q3⟩:=p.bsub j o q1
    rcases get_set q3 with ⟨y,_⟩ | ⟨_,y⟩
    · exact ne y
    · exact rep.bor j o' a y q2 oa
  refine ⟨h',hq v _ G' dv (sl'.set i (some (.own (.dk kvs)))) ?_ z2⟩
  have ownset:∀ b,Own (sl'.set i (some (.own (.dk kvs)))) σ b->b=a\/Own sl' σ b:=fun b ⟨j,o,q1,q2⟩=>by
    rcases get_set q1 with ⟨rfl,_⟩ | ⟨_,y⟩
    · rw [e1] at q2;cases q2;exact .inl rfl
    · exact .inr ⟨j,o,y,q2⟩
  have vne:∀ (o:OO) (b:Addr),dv=.own o->v=.ref b->b≠a:=fun o b q1 q2 y=>by
    subst y
    rcases p.new b o q1 q2 with y | y
    · rw [upd_same] at y;cases y
    · exact na y
  refine { ex:=p.ex,rep:=⟨⟨fun b o q1=>?_,fun b k q1=>?_,p.rep.h.ok,aea p.rep.h.tp (by intro _ z;cases z)⟩,by rw [List.length_set];exact p.rep.len,fun j d ej=>?_,fun j k o1 o2 b q1 q2 q3 q4=>?_,fun j o1 b q1 q2 w=>?_,fun j o1 w=>?_⟩,keep:=fun b o q1 sb=>?_,frm:=fun b n1 g1 sb w=>?_,sub:=fun b w=>?_,bsub:=fun j o w=>?_,val:=?_,new:=fun b o q1 q2=>?_,sepv:=fun b o q1 q2 w=>?_,nbs:=fun b o j o' q1 q2 q3 q4=>?_ }
  · rw [upd_ne (fun y=>by rw [y,g'] at q1;cases q1)];exact p.rep.h.ex b o q1
  · exact (p.rep.h.vol b k q1).keep (Ex.refl _) (p.rep.h.vol b k q1).g (upd_ne fun y=>sa (y ▸ ⟨k,q1⟩))
  · rcases get_set ej with ⟨rfl,y⟩ | ⟨ne,y⟩
    · cases y;exact ⟨_,e1,a,rfl,g',sa,vs,upd_same,fa.mono p.ex⟩
    · obtain ⟨v',f1,f2⟩:=p.rep.slots j d y
      refine ⟨v',f1,?_⟩
      cases d with
      | d x=>exact f2
      | src=>exact f2
      | own o=>
        obtain ⟨b,rfl,g1,s1,k⟩:=f2
        have ab:b≠a:=fun q=>nown (q ▸ ⟨j,o,y,f1⟩)
        exact ⟨b,rfl,g1,s1,k.keep (Ex.refl _) (upd_ne ab)⟩
      | bor o=>
        obtain ⟨b,rfl,s1,k⟩:=f2
        have ab:b≠a:=fun q=>nbor j o ne y (q ▸ f1)
        exact ⟨b,rfl,s1,k.keep (Ex.refl _) (upd_ne ab)⟩
      | see o=>exact absurd y (p.rep.nse j o)
      | mu y D gs=>exact SlOk.muU f2 (Ex.refl _) sa
      | gh _ _=>exact SlOk.ghU f2 (Ex.refl _) sa
  · rcases get_set q1 with ⟨rfl,y⟩ | ⟨n1,y1⟩
    · rcases get_set q2 with ⟨rfl,_⟩ | ⟨n2,y2⟩
      · rfl
      · rw [e1] at q3;cases q3;exact absurd ⟨k,o2,y2,q4⟩ nown
    · rcases get_set q2 with ⟨rfl,_⟩ | ⟨n2,y2⟩
      · rw [e1] at q4;cases q4;exact absurd ⟨j,o1,y1,q3⟩ nown
      · exact p.rep.sep j k o1 o2 b y1 y2 q3 q4
  · rcases get_set q1 with ⟨_,y⟩ | ⟨ne,y⟩
    · cases y
    · rcases ownset b w with rfl | w
      · exact nbor j o1 ne y q2
      · exact p.rep.bor j o1 b y q2 w
  · rcases get_set w with ⟨_,y⟩ | ⟨ne,y⟩
    · cases y
    · exact p.rep.nse j o1 y
  · by_cases y:b=a
    · subst y;rw [ha] at q1;cases q1;exact upd_same
    · rw [upd_ne y];exact p.keep b o (by rw [up_a b y];exact q1) sb
  · have y:b≠a:=fun y=>w (y ▸ oa)
    exact p.frm b (by rw [up_a b y];exact n1) g1 sb fun k=>w (adP k).1
  · rcases ownset b w with rfl | w
    · exact oa
    · exact (adP (p.sub b w)).1
  · rcases get_set w with ⟨_,y⟩ | ⟨ne,y⟩
    · cases y
    · obtain ⟨o',q3⟩:=p.bsub j o y
      rcases get_set q3 with ⟨y,_⟩ | ⟨_,y⟩
      · exact absurd y ne
      · exact ⟨o',y⟩
  · have w:=p.val
    cases dv with
    | d x=>exact w
    | src=>exact w
    | own o=>
      obtain ⟨b,rfl,g1,s1,k⟩:=w
      exact ⟨b,rfl,g1,s1,k.keep (Ex.refl _) (upd_ne (vne o b rfl rfl))⟩
    | bor o=>exact z1.elim
    | see o=>exact z1.elim
    | mu _ _ _=>exact w.elim
    | gh _ _=>exact w.elim
  · rcases p.new b o q1 q2 with y | y
    · refine .inl ?_
      by_cases q:b=a
      · exact absurd q (vne o b q1 q2)
      · rw [<- up_a b q];exact y
    · exact .inr (adP y).1
  · rcases ownset b w with y | w
    · rcases q1 with q1 | q1
      · exact vne o b q1 q2 y
      · rw [q1] at z1;exact z1
    · exact p.sepv b o q1 q2 w
  · rcases get_set q3 with ⟨_,y⟩ | ⟨ne,y⟩
    · cases y
    · exact p.nbs b o j o' q1 q2 y q4
end
section
variable {X:Cx} {k:Nat} {f C:Addr} {fd:FuncData} {ps:List Str} {sp:SpD}
def rInI (K:PySem.W.Frag) (C:Addr) (sp:SpD) (n:Bool):R2:=fun x y H Q=>∃ a dx fs,y=.ref a/\H a=some (.ins C dx fs)/\upSp K sp [y,x] H (fun v H'=>∃ b,v=.bl b/\Q (.bl (if n then !b else b)) H') fun _ _ _=>False
theorem anU (hm:Meth X.K C "__contains__" f) (F:FnG X.prog X.w X.K X.mg X.base k f fd ps sp) (hr:Room (k + 1) X.A) (hg:X.A.guards=some []) (hb:Binds X.K fd ps []):OpR X (compareOp .In) (rInI X.K C sp false):=by
  intro pins s σ H x y v u Q I rx ry h
  obtain ⟨a,dx,fs,rfl,e,q⟩:=h
  cases ry
  obtain ⟨mA,J,_⟩:=ins_get I.hok e
  obtain ⟨od,J,_⟩:=J.look
  obtain ⟨m,hF⟩:=I.fr
  refine PySem.W.in_K (h₀:=X.base) hF I.ok.mod.kin J hm.at_ hm.fn ?_
  refine wpAny_mono (aeU (A:=X.A) F (hr.mono (by omega)) hg rfl hb I (vs:=[.ref a,x]) (.cons rfl (.cons rx .nil)) q) (fun v s' hv=>?_) fun _ _ x=>x
  obtain ⟨z,H',I',rz,b,rfl,hq⟩:=hv
  obtain rfl:v=.bool b:=rz
  exact wpAny_truthy_bool ⟨.bl b,H',I',rfl,hq⟩
theorem alE (hm:Meth X.K C "__contains__" f) (F:FnG X.prog X.w X.K X.mg X.base k f fd ps sp) (hr:Room (k + 1) X.A) (hg:X.A.guards=some []) (hb:Binds X.K fd ps []):OpR X (compareOp .NotIn) (rInI X.K C sp true):=by
  intro pins s σ H x y v u Q I rx ry h
  obtain ⟨a,dx,fs,rfl,e,q⟩:=h
  cases ry
  obtain ⟨mA,J,_⟩:=ins_get I.hok e
  obtain ⟨od,J,_⟩:=J.look
  obtain ⟨m,hF⟩:=I.fr
  refine PySem.W.notIn_K (h₀:=X.base) hF I.ok.mod.kin J hm.at_ hm.fn ?_
  refine wpAny_mono (aeU (A:=X.A) F (hr.mono (by omega)) hg rfl hb I (vs:=[.ref a,x]) (.cons rfl (.cons rx .nil)) q) (fun v s' hv=>?_) fun _ _ x=>x
  obtain ⟨z,H',I',rz,b,rfl,hq⟩:=hv
  obtain rfl:v=.bool b:=rz
  exact wpAny_truthy_bool ⟨.bl (!b),H',I',rfl,hq⟩
@[irreducible] def inIR (C:Addr) (sp:SpD) (n:Bool) (x y:DV) (Q:DV->Prop):Prop:=match x,y with
  | .d e,.d (.ins D fs)=>D=C/\sp [.d (.ins D fs),.d e] (fun v=>match v with
    | .d (.bl b)=>Q (.d (.bl (if n then !b else b)))
    | _=>False) fun _ _=>False
  | _,_=>False
theorem ajz {K:PySem.W.Frag} {n:Bool}:OpSem K (rInI K C sp n) (inIR C sp n):=by
  intro G so H x y dx dy Q R h wx wy q hk
  unfold inIR at q
  split at q
  · rename_i e D fs
    obtain ⟨rfl,q⟩:=q
    obtain ⟨a,dd,vs,rfl,ea,_⟩:=wy.inst h rfl
    refine ⟨a,dd,vs,rfl,ea,G,so,_,_,_,h,.cons wy (fun _ e=>(nomatch e)) (.cons wx (fun _ e=>(nomatch e)) .nil),q,fun v H' G' dv p z=>?_,fun _ _ _ _ _ _ _ z=>z⟩
    split at z
    · rename_i b
      have:v=.bl b:=by
        have:=p.val
        cases this;rfl
      subst this
      exact ⟨b,rfl,hk _ H' G' (.d (.bl (if n then !b else b))) ⟨p.ex,p.hrep,p.keep,p.frm,.bl _,fun _ _ e=>(nomatch e),fun _ e=>(nomatch e)⟩ z⟩
    · exact z.elim
  · exact q.elim
theorem aoV {n:Bool} {fs:List (Str × D)} {e:D} {Q:DV->Prop} (h:sp [.d (.ins C fs),.d e] (fun v=>match v with
    | .d (.bl b)=>Q (.d (.bl (if n then !b else b)))
    | _=>False) fun _ _=>False):inIR C sp n (.d e) (.d (.ins C fs)) Q:=by
  unfold inIR
  exact ⟨rfl,h⟩
end
def insD (ds:List D) (k:Nat) (d:D):List D:=ds.take k++[d]++ds.drop k
def dInsert (tk te:TD) (i:Nat):TDS:=fun E sl=>(∃ ds,sl[i]?=some (some (.own (.lst ds))))/\tk sl (fun x s1=>te s1 (fun y s2=>match s2[i]?,pubV x,pubV y with
  | some (some (.own (.lst ds))),.d (.int k),.d d=>ds.length < szl/\0<=k/\k < 2 ^ 63/\E.nx (s2.set i (some (.own (.lst (insD ds k.toNat d)))))
  | _,_,_=>False) E.xc) E.xc
section
variable {X:Cx} {W:WX} {o key value:Expr} {tk te:TD} {pos pos':Pos} {i:Nat}
theorem amp (ho:PE X o (tVar i)) (hk:DE X W key tk) (hv:DE X W value te) (hbase:attributeBase o "insert" X.env (eval o X.env)=eval o X.env:=by rfl)
    (hfew:((backTo pos (starEach [key,value] X.env)).all (fun x=>!x.1) && (backToKw pos (keywordEach [] X.env)).all (fun x=>x.1.isSome)
      && decide ([key,value].length + ([]:List Keyword).length + (if ([]:List Keyword).isEmpty then 0 else 1) < 30))=true:=by rfl)
    (hline:(pos'.endLine == pos.line)=true:=by rfl) (hs:starEach [key,value] X.env=(false,eval key X.env)::starEach [value] X.env:=by rfl) (hs2:starEach [value] X.env=(false,eval value X.env)::starEach [] X.env:=by rfl) (hplain:(backTo pos (starEach [value] X.env)).any (·.1)=false:=by rfl) {spos:Pos}
    (hsw:swapsWith (.Call (.Attribute o "insert" pos') [key,value] [] pos) none spos.line X.env=pure false:=by rfl) :
    DS X W (.Expr (.Call (.Attribute o "insert" pos') [key,value] [] pos) spos) (dInsert tk te i):=by
  refine adp (ps_expr (pe_bm PySem.F.plainAttrs_list PySem.F.slot_list_insert PySem.F.type_list_insert mt_insert ho (pa_cons hk (pa_cons hv pa_nil hs2) hs) hbase hfew hline hs hplain) hsw) fun D σ H ⟨G,so,sl,E,rep,q,ok⟩=>?_
  obtain ⟨⟨ds0,e0⟩,q⟩:=q
  obtain ⟨v0,f0,a,rfl,ga,sa,vs0,h0,d0⟩:=rep.slots i _ e0
  refine ⟨.ref a,f0,.inl ⟨rfl,_,SqL.of h0⟩,?_⟩
  refine ⟨G,so,sl,_,E.xc,rep,q,fun x H1 G1 dx s1 p1 z=>?_,ok.xc.ex⟩
  obtain ⟨G1',p1'⟩:=p1.pub
  refine ⟨G1',so,s1,_,E.xc,p1'.rep,z,fun y H2 G2 dy s2 p2 z2=>?_,(ok.step p1'.toPost.s).xc.ex⟩
  obtain ⟨G2',p2'⟩:=p2.pub
  split at z2
  · rename_i ds k d e1 e2 e3
    obtain ⟨l,k0,k1,z2⟩:=z2
    obtain ⟨v,f1,b,rfl,gb,sb,vs,h1,h2⟩:=p2'.rep.slots i _ e1
    rw [f0] at f1
    cases f1
    have wy:DOk X.K G2' y d:=by have:=p2'.val;rw [e3] at this;exact this
    have wx:DOk X.K G2' x (.int k):=by have:=p1'.over p2'.toPost;rw [e2] at this;exact this
    obtain rfl:x=.int k:=by cases wx;rfl
    refine ⟨a,vs,k,y,rfl,rfl,h1,by rw [h2.length,<- acM];exact l,k0,k1,?_⟩
    exact ok.nx σ _ G2' _ ((p1'.toPost.trans p2'.toPost).s.trans (PostS.mut (o':=.lst (insD ds k.toNat d)) p2'.rep e1 f0 ⟨_,upd_same,((h2.take k.toNat).append (.cons wy .nil)).append (h2.drop k.toNat)⟩)) z2
  · exact z2.elim
theorem ao4 {E:EndsD} {sl:DSt} (ds:List D) (R:Nat->Prop) (d:D) (h:∀ Q:DV->DSt->Prop,(∀ k:Nat,R k->Q (.d (.int k)) sl)->tk sl Q E.xc) (h2:∀ Q:DV->DSt->Prop,Q (.d d) sl->te sl Q E.xc) (q:∀ k,R k->E.nx (sl.set i (some (.own (.lst (insD ds k d)))))) (hR:∀ k,R k->k < 2 ^ 60) (hl:ds.length < szl) (e:sl[i]?=some (some (.own (.lst ds))):=by rfl):dInsert tk te i E sl:=by
  refine ⟨⟨ds,e⟩,h _ fun k hk=>h2 _ ?_⟩
  show (match sl[i]?,DV.d (.int k),DV.d d with
    | some (some (.own (.lst ds))),.d (.int k),.d d=>ds.length < szl/\0<=k/\k < 2 ^ 63/\E.nx (sl.set i (some (.own (.lst (insD ds k.toNat d)))))
    | _,_,_=>False)
  rw [e]
  exact ⟨hl,by omega,by have:=hR k hk;omega,by rw [Int.toNat_natCast];exact q k hk⟩
@[irreducible] def idxR (x y:DV) (Q:DV->Prop):Prop:=match x,y with
  | .d (.tup ds),.d (.str z)=>(match strsD ds with
    | some ss=>∃ j:Nat,ss[j]?=some z/\(∀ m,m < j->ss[m]?≠some z)/\Q (.d (.int j))
    | none=>False)
  | _,_=>False
def GlobT (K:PySem.W.Frag) (mg:Str->Option Value) (x:Str) (ds:List D):Prop:=∃ b o,mg x=some (.ref b)/\K.lookup b=some o/\o.cls=.type "tuple"/\o.dict=none/\∀ G,DOk K G (.ref b) (.tup ds)
def gtB (K:PySem.W.Frag) (x:Str) (ds:List D):Bool:=match PySem.W.nsIn K mainGlobals x with
  | some (some (.ref b))=>(match K.lookup b with
    | some ⟨.type c,none,_,_⟩=>decide (c="tuple") && datB K (.tup ds) (.ref b)
    | _=>false)
  | _=>false
theorem aqe {K:PySem.W.Frag} {h:Heap} {mg:Str->Option Value} (X:K.In h) (G:h.Ns mainGlobals mg) {x:Str} {ds:List D} (c:gtB K x ds=true):GlobT K mg x ds:=by
  unfold gtB at c
  split at c
  · rename_i b e
    split at c
    · rename_i cc da sl q
      obtain ⟨h1,h2⟩:=He.ba c
      obtain ⟨v,r,w⟩:=ais _ _ h2
      have ev:v=.ref b:=by
        have w1:=w (fun _=>none)
        cases w1
        injection r with r
        rw [r]
      subst ev
      exact ⟨b,_,PySem.W.mg_of X G e,q,congrArg Value.type (of_decide_eq_true h1),rfl,w⟩
    · cases c
  · cases c
theorem gt_ok {l:LX} {fa:List He.Fa} {fn:List He.DefD} {h:Heap} {K:PySem.W.Frag} {mg:Str->Option Value} {x:Str} {ds:List D} (S:SaysX l fa fn h K) (X:K.In h) (G:h.Ns mainGlobals mg) {i:Nat} (e:l.xs[i]?=some (fun K=>gtB K x ds)):GlobT K mg x ds:=
  aqe X G (List.all_eq_true.mp (He.ba (He.ba S.c).2).2 _ (List.mem_of_getElem? e))
theorem anv {ds:List D} {x:Str} {xp:Pos} (hg:Gl X x) (T:GlobT X.K X.mg x ds) (he:DE X W value te) (hs:starEach [value] X.env=(false,eval value X.env)::starEach [] X.env:=by rfl) (hbase:attributeBase (.Name x xp) "index" X.env (eval (.Name x xp) X.env)=eval (.Name x xp) X.env:=by rfl)
    (hfew:((backTo pos (starEach [value] X.env)).all (fun x=>!x.1) && (backToKw pos (keywordEach [] X.env)).all (fun x=>x.1.isSome)
      && decide ([value].length + ([]:List Keyword).length + (if ([]:List Keyword).isEmpty then 0 else 1) < 30))=true:=by rfl)
    (hline:(pos'.endLine == pos.line)=true:=by rfl) (hplain:(backTo pos (starEach [] X.env)).any (·.1)=false:=by rfl) (hdb:(x == ("__debug__":Str))=false:=by decide):DE X W (.Call (.Attribute (.Name x xp) "index" pos') [value] [] pos) (dUn (idxR (.d (.tup ds))) te):=by
  obtain ⟨b,o,m,lk,c1,c2,w⟩:=T
  refine aaD (pe_bm PySem.F.plainAttrs_tuple PySem.F.slot_tuple_index PySem.F.type_tuple_index mt_tup_index (pe_glob (v:=.ref b) hg m rfl hdb) (pa_cons he pa_nil hs) hbase hfew hline hs hplain) fun σ H R ⟨G,so,sl,Q,E,rep,q,hq,hx⟩=>?_
  refine ⟨.inr (.inl ⟨rfl,o,lk,c1,c2⟩),?_⟩
  refine ⟨G,so,sl,_,E,rep,q,fun y H2 G2 dy s2 p2 h2=>?_,hx⟩
  unfold idxR at h2
  split at h2
  · rename_i es z e1
    cases e1
    split at h2
    · rename_i ss e
      obtain ⟨j,j1,j2,h2⟩:=h2
      obtain ⟨b',vs',eb,g2,a2⟩:=VOk.tup p2.rep.h (show VOk X.K G2 so H2 (.ref b) (.d (.tup ds)) from w G2)
      cases eb
      have w2:DOk X.K G2 y (.str z):=p2.val
      cases w2
      exact ⟨b,ss,z,j,rfl,rfl,by rw [<- agq a2 e];exact g2,j1,j2,hq _ H2 G2 _ s2 (p2.toPost.thenV (.dat p2.rep.h (.int _))) h2⟩
    · exact h2.elim
  · exact h2.elim
theorem l_idx {ds:List D} {ss:List Str} {z:Str} {j:Nat} {Q:DV->Prop} (h:strsD ds=some ss) (h1:ss[j]?=some z) (h2:∀ m,m < j->ss[m]?≠some z) (q:Q (.d (.int j))):idxR (.d (.tup ds)) (.d (.str z)) Q:=by
  unfold idxR
  dsimp only
  rw [h];exact ⟨j,h1,h2,q⟩
def dListRg (te:TD):TD:=fun sl Q E=>te sl (fun x s1=>match x with
  | .d (.int n)=>0<=n/\n<=16777216/\Q (.own (.lst (intsFrom 0 n.toNat))) s1
  | _=>False) E
theorem apJ {K:PySem.W.Frag} {G:Hp} (n:Nat) (lo:Int):DAll K G ((List.range n).map fun (i:Nat)=>V.int (lo + (i:Int))) (intsFrom lo n):=by
  induction n generalizing lo with
  | zero=>exact .nil
  | succ n ih=>
    rw [List.range_succ_eq_map,List.map_cons,List.map_map]
    have e:((fun (i:Nat)=>V.int (lo + (i:Int))) ∘ Nat.succ)=fun (i:Nat)=>V.int (lo + 1 + (i:Int)):=by
      funext i
      show V.int (lo + ((i + 1:Nat):Int))=V.int (lo + 1 + (i:Int))
      congr 1;omega
    rw [e]
    have e0:lo + ((0:Nat):Int)=lo:=by omega
    rw [e0]
    exact .cons (.int lo) (ih (lo + 1))
theorem amw {e:Expr} {te:TD} {p q' r':Pos} (hc:X.calm=true) (hg:Gl X "list") (hm:X.mg "list"=none) (hg2:Gl X "range") (hm2:X.mg "range"=none) (he:DE X W e te) (na:starEach [e] X.env=(false,eval e X.env)::starEach [] X.env:=by rfl)
    (nb:starEach [.Call (.Name "range" q') [e] [] r'] X.env=(false,eval (.Call (.Name "range" q') [e] [] r') X.env)::starEach [] X.env:=by rfl):DE X W (.Call (.Name "list" p) [.Call (.Name "range" q') [e] [] r'] [] pos) (dListRg te):=by
  refine aaD (pe_listRg hc hg hm (prg_1 hg2 hm2 he na) nb) fun σ H R ⟨G,so,sl,Q,E,rep,q,hq,hx⟩=>?_
  refine ⟨G,so,sl,_,E,rep,q,fun x H1 G1 dx s1 p1 h1=>?_,hx⟩
  split at h1
  · rename_i n
    obtain ⟨h0,h2,h1⟩:=h1
    have w:DOk X.K G1 x (.int n):=p1.val
    cases w
    refine ⟨n,rfl,RgOk.of_le (by omega) h2 (by omega) h0,fun l nl=>?_⟩
    have e2:rgV 0 n=(List.range n.toNat).map fun (i:Nat)=>V.int ((0:Int) + (i:Int)):=by
      unfold rgV;rw [Int.sub_zero]
    rw [e2]
    exact hq _ _ G1 _ s1 (p1.toPost.thenV (.list p1.rep.h nl (apJ _ _))) h1
  · exact h1.elim
theorem ak7 {X:Cx} (hc:X.calm=true):CallR X (.type "list") (fun xs H Q=>∃ z:Str,xs=[.str z]/\z.length<=sizeLine/\∀ l,H l=none->Q (.ref l) (upd H l (.lst (z.cps.toList.map fun c=>V.str ⟨#[c]⟩)))):=by
  intro pins s σ H xs us Q I r h
  obtain ⟨z,rfl,hz,q⟩:=h
  obtain ⟨u,rfl,t,rfl⟩:=vals1 r
  refine call_list_str (I.ok.hd hc) z t (fun h' tk acc c' hk e' hi=>?_) hz
  refine ⟨.ref s.heap.objs.size,upd H s.heap.objs.size (.lst (z.cps.toList.map fun c=>V.str ⟨#[c]⟩)),I.laid hk (Nat.le_refl _) (show ObjOk X.prog X.w _ _ _ (.lst _) from ⟨?_,acc.toList,c',?_,?_⟩),rfl,q _ (I.hok.fresh (Nat.le_refl _))⟩
  · rw [List.length_map];exact hz
  · refine vals_of_at ?_ fun j x u e1 e2=>?_
    · rw [List.length_map,Array.length_toList,Array.length_toList];exact hi.1.symm
    · rw [Array.getElem?_toList] at e2
      obtain ⟨c,tt,f1,rfl⟩:=hi.2 j u e2
      rw [List.getElem?_map,Array.getElem?_toList,f1] at e1
      cases e1
      exact ⟨tt,rfl⟩
  · rw [Array.toArray_toList];exact e'
end
@[irreducible] def listSR:List DV->(DV->Prop)->Prop
  | [.d (.str z)],Q=>z.length<=szl/\Q (.own (.lst (signs z)))
  | _,_=>False
theorem aiK {K:PySem.W.Frag} {G:Hp}:∀ cs:List Nat,DAll K G (cs.map fun c=>V.str ⟨#[c]⟩) (cs.map fun c=>D.str ⟨#[c]⟩)
  | []=>.nil
  | c::r=>.cons (.str _) (aiK r)
theorem alk {K:PySem.W.Frag}:CallSem K (fun xs H Q=>∃ z:Str,xs=[.str z]/\z.length<=sizeLine/\∀ l,H l=none->Q (.ref l) (upd H l (.lst (z.cps.toList.map fun c=>V.str ⟨#[c]⟩)))) listSR:=by
  intro G so H xs dxs Q R h w q k
  unfold listSR at q
  split at q
  · obtain ⟨v,rfl,w1,_⟩:=w.v1
    cases w1
    exact ⟨_,rfl,by rw [<- acM];exact q.1,fun l n=>k _ _ G _ (.list h n (aiK _)) q.2⟩
  · exact q.elim
theorem aoQ {z:Str} {Q:DV->Prop} (h:z.length<=szl) (q:Q (.own (.lst (signs z)))):listSR [.d (.str z)] Q:=by
  unfold listSR;exact ⟨h,q⟩
end DL
set_option maxHeartbeats 4000000
namespace K13
open PySem PySem.Spec PyProof.Rows L2 DL
def topS (i:Nat):Stmt:=PySem.Challenge.pw_missingmiles_k13_worlds_told.main.body.getD i (.Pass ⟨0,0,0,0⟩)
abbrev acW:Stmt:=topS 16
abbrev aaZ:Nat:=0
abbrev acs:Stmt:=topS 17
abbrev ab6:Nat:=1
abbrev acX:Stmt:=topS 18
abbrev abS:Nat:=2
abbrev acr:Stmt:=topS 19
abbrev ab4:Nat:=3
abbrev adO:Stmt:=topS 20
abbrev ady:Nat:=4
abbrev acV:Stmt:=topS 21
abbrev abR:Nat:=5
abbrev agx:Stmt:=topS 22
abbrev afR:Nat:=6
abbrev aeT:Stmt:=topS 23
abbrev aek:Nat:=7
abbrev ac7:Stmt:=topS 28
abbrev ac9:Nat:=8
abbrev acY:Stmt:=topS 29
abbrev acC:Nat:=9
abbrev abZ:Stmt:=topS 33
abbrev ab5:Nat:=10
abbrev aa9:Stmt:=topS 34
abbrev abp:Nat:=11
abbrev aaU:Stmt:=topS 35
abbrev aaV:Nat:=12
abbrev aaM:Stmt:=topS 36
abbrev aaN:Nat:=13
abbrev aa3:Stmt:=inClass (topS 37) 1
abbrev aas:Nat:=14
abbrev ab3:Stmt:=inClass (topS 37) 2
abbrev abe:Nat:=15
abbrev abv:Stmt:=inClass (topS 37) 3
abbrev aap:Nat:=16
abbrev abO:Stmt:=inClass (topS 37) 4
abbrev aaC:Nat:=17
abbrev aay:Stmt:=inClass (topS 37) 13
abbrev aam:Nat:=18
abbrev abN:Stmt:=inClass (topS 37) 5
abbrev aaK:Nat:=19
abbrev abh:Stmt:=inClass (topS 37) 7
abbrev aaW:Nat:=20
abbrev abn:Stmt:=inClass (topS 37) 6
abbrev aaB:Nat:=21
abbrev abi:Stmt:=inClass (topS 37) 15
abbrev aaX:Nat:=22
abbrev aa4:Stmt:=inClass (topS 37) 16
abbrev aaP:Nat:=23
abbrev abw:Stmt:=inClass (topS 37) 14
abbrev abf:Nat:=24
abbrev abY:Stmt:=topS 30
abbrev abD:Nat:=25
abbrev aa2:Stmt:=inClass (topS 37) 17
abbrev aaO:Nat:=26
abbrev abJ:Stmt:=topS 39
abbrev ach:Nat:=27
abbrev abM:Stmt:=topS 40
abbrev aar:Nat:=28
abbrev ado:Stmt:=topS 41
abbrev acm:Nat:=29
abbrev ab0:Stmt:=topS 42
abbrev abd:Nat:=30
abbrev acu:Stmt:=topS 43
abbrev ab8:Nat:=31
abbrev abL:Stmt:=topS 44
abbrev aci:Nat:=32
abbrev s__law_ask:Stmt:=topS 45
abbrev abz:Nat:=33
abbrev acZ:Stmt:=topS 46
abbrev abT:Nat:=34
abbrev acv:Stmt:=topS 47
abbrev ab9:Nat:=35
abbrev acw:Stmt:=topS 48
abbrev acb:Nat:=36
abbrev ab2:Stmt:=topS 49
abbrev abH:Nat:=37
abbrev abl:Stmt:=topS 50
abbrev abG:Nat:=38
abbrev abK:Stmt:=topS 51
abbrev abq:Nat:=39
abbrev acx:Stmt:=topS 52
abbrev acd:Nat:=40
abbrev abm:Stmt:=topS 53
abbrev abr:Nat:=41
abbrev abB:Stmt:=topS 54
abbrev abE:Nat:=42
abbrev aau:Stmt:=topS 58
abbrev aaz:Nat:=43
abbrev ab1:Stmt:=topS 55
abbrev aca:Nat:=44
abbrev abI:Stmt:=topS 56
abbrev ab7:Nat:=45
abbrev aa1:Stmt:=topS 57
abbrev aax:Nat:=46
abbrev abC:Stmt:=topS 59
abbrev abF:Nat:=47
abbrev aeS:Stmt:=topS 60
abbrev aij:Nat:=48
abbrev aaG:Stmt:=inClass (topS 5) 0
abbrev acI:List (Str × (Str ⊕ Str)):=[("code",.inl "InvalidRatio"),("given",.inr "given")]
abbrev adj (given:D):List (Str × D):=[("given",given),("code",.str "InvalidRatio")]
abbrev aaF:Stmt:=inClass (topS 8) 0
abbrev ad9:List (Str × (Str ⊕ Str)):=[("code",.inl "InvalidTable"),("layer",.inr "layer")]
abbrev aa8:Stmt:=inClass (topS 9) 0
abbrev ae5:List (Str × (Str ⊕ Str)):=[("code",.inl "InvalidWay"),("layer",.inr "layer"),("start",.inr "start"),("goal",.inr "goal")]
abbrev acg:Stmt:=inClass (topS 11) 0
abbrev aey:List (Str × (Str ⊕ Str)):=[("code",.inl "TooMany"),("subject",.inr "subject"),("most",.inr "most")]
abbrev afs (subject:D) (most:D):List (Str × D):=[("most",most),("subject",subject),("code",.str "TooMany")]
abbrev aaR:Stmt:=inClass (topS 6) 0
abbrev ac1:List (Str × (Str ⊕ Str)):=[("code",.inl "InvalidName"),("given",.inr "given")]
abbrev adA (given:D):List (Str × D):=[("given",given),("code",.str "InvalidName")]
abbrev aaH:Stmt:=inClass (topS 10) 0
abbrev acJ:List (Str × (Str ⊕ Str)):=[("code",.inl "InvalidPlace"),("given",.inr "given")]
abbrev adk (given:D):List (Str × D):=[("given",given),("code",.str "InvalidPlace")]
abbrev aaQ:Stmt:=inClass (topS 12) 0
abbrev ac0:List (Str × (Str ⊕ Str)):=[("code",.inl "UnknownName"),("name",.inr "name")]
abbrev abQ (name:D):List (Str × D):=[("name",name),("code",.str "UnknownName")]
abbrev aaI:Stmt:=inClass (topS 7) 0
abbrev acK:List (Str × (Str ⊕ Str)):=[("code",.inl "InvalidLayer"),("given",.inr "given")]
abbrev aaS (given:D):List (Str × D):=[("given",given),("code",.str "InvalidLayer")]
theorem agi (given:D):xdD ["given"] acI [given]=adj given:=by first | rfl | kernel_rfl
theorem agg {E:Value->List (Str × D)->Prop} {v:Value} {given:D} (h:E v (adj given)):E v (xdD ["given"] acI [given]):=by rw [agi];exact h
theorem akN (subject:D) (most:D):xdD ["subject","most"] aey [subject,most]=afs subject most:=by first | rfl | kernel_rfl
theorem ahw {E:Value->List (Str × D)->Prop} {v:Value} {subject:D} {most:D} (h:E v (afs subject most)):E v (xdD ["subject","most"] aey [subject,most]):=by rw [akN];exact h
theorem ag7 (given:D):xdD ["given"] ac1 [given]=adA given:=by first | rfl | kernel_rfl
theorem aeK {E:Value->List (Str × D)->Prop} {v:Value} {given:D} (h:E v (adA given)):E v (xdD ["given"] ac1 [given]):=by rw [ag7];exact h
theorem agj (given:D):xdD ["given"] acJ [given]=adk given:=by first | rfl | kernel_rfl
theorem acH {E:Value->List (Str × D)->Prop} {v:Value} {given:D} (h:E v (adk given)):E v (xdD ["given"] acJ [given]):=by rw [agj];exact h
theorem ag6 (name:D):xdD ["name"] ac0 [name]=abQ name:=by first | rfl | kernel_rfl
theorem ag5 {E:Value->List (Str × D)->Prop} {v:Value} {name:D} (h:E v (abQ name)):E v (xdD ["name"] ac0 [name]):=by rw [ag6];exact h
theorem agk (given:D):xdD ["given"] acK [given]=aaS given:=by first | rfl | kernel_rfl
theorem agh {E:Value->List (Str × D)->Prop} {v:Value} {given:D} (h:E v (aaS given)):E v (xdD ["given"] acK [given]):=by rw [agk];exact h
section
variable {P:Program} {w:World} {K:PySem.W.Frag} {mg:Str->Option Value} {base:Heap} {a:Nat->Addr} {d:Nat->FuncData}
def df0:He.DefD:=⟨("is_whole",none),"is_whole","is_whole",defArgs acW,defBody acW,defScope acW,[],[]⟩
def df1:He.DefD:=⟨("is_number",none),"is_number","is_number",defArgs acs,defBody acs,defScope acs,[],[]⟩
def df2:He.DefD:=⟨("is_ratio",none),"is_ratio","is_ratio",defArgs acX,defBody acX,defScope acX,[],[]⟩
def df3:He.DefD:=⟨("is_valued",none),"is_valued","is_valued",defArgs acr,defBody acr,defScope acr,[],[]⟩
def df4:He.DefD:=⟨("lowest",none),"lowest","lowest",defArgs adO,defBody adO,defScope adO,[],[]⟩
def df5:He.DefD:=⟨("ratio_of",none),"ratio_of","ratio_of",defArgs acV,defBody acV,defScope acV,[],[]⟩
def df6:He.DefD:=⟨("plus",none),"plus","plus",defArgs agx,defBody agx,defScope agx,[],[]⟩
def df7:He.DefD:=⟨("below",none),"below","below",defArgs aeT,defBody aeT,defScope aeT,[],[]⟩
def df8:He.DefD:=⟨("is_name",none),"is_name","is_name",defArgs ac7,defBody ac7,defScope ac7,[],[]⟩
def df9:He.DefD:=⟨("is_layer",none),"is_layer","is_layer",defArgs acY,defBody acY,defScope acY,[.int 2],[]⟩
def df10:He.DefD:=⟨("is_square",none),"is_square","is_square",defArgs abZ,defBody abZ,defScope abZ,[],[]⟩
def df11:He.DefD:=⟨("first_fault",none),"first_fault","first_fault",defArgs aa9,defBody aa9,defScope aa9,[],[]⟩
def df12:He.DefD:=⟨("checked_table",none),"checked_table","checked_table",defArgs aaU,defBody aaU,defScope aaU,[],[]⟩
def df13:He.DefD:=⟨("checked_places",none),"checked_places","checked_places",defArgs aaM,defBody aaM,defScope aaM,[],[]⟩
def df14:He.DefD:=⟨("World",some "__init__"),"__init__","World.__init__",defArgs aa3,defBody aa3,defScope aa3,[],[("cart",.non)]⟩
def df15:He.DefD:=⟨("World",some "size"),"size","World.size",defArgs ab3,defBody ab3,defScope ab3,[],[]⟩
def df16:He.DefD:=⟨("World",some "layers"),"layers","World.layers",defArgs abv,defBody abv,defScope abv,[],[]⟩
def df17:He.DefD:=⟨("World",some "names"),"names","World.names",defArgs abO,defBody abO,defScope abO,[],[]⟩
def df18:He.DefD:=⟨("World",some "__contains__"),"__contains__","World.__contains__",defArgs aay,defBody aay,defScope aay,[],[]⟩
def df19:He.DefD:=⟨("World",some "place"),"place","World.place",defArgs abN,defBody abN,defScope abN,[],[]⟩
def df20:He.DefD:=⟨("World",some "rows_of"),"rows_of","World.rows_of",defArgs abh,defBody abh,defScope abh,[],[]⟩
def df21:He.DefD:=⟨("World",some "table"),"table","World.table",defArgs abn,defBody abn,defScope abn,[.str "foot"],[]⟩
def df22:He.DefD:=⟨("World",some "__len__"),"__len__","World.__len__",defArgs abi,defBody abi,defScope abi,[],[]⟩
def df23:He.DefD:=⟨("World",some "__bool__"),"__bool__","World.__bool__",defArgs aa4,defBody aa4,defScope aa4,[],[]⟩
def df24:He.DefD:=⟨("World",some "__eq__"),"__eq__","World.__eq__",defArgs abw,defBody abw,defScope abw,[],[]⟩
def df25:He.DefD:=⟨("names_text",none),"names_text","names_text",defArgs abY,defBody abY,defScope abY,[],[]⟩
def df26:He.DefD:=⟨("World",some "__repr__"),"__repr__","World.__repr__",defArgs aa2,defBody aa2,defScope aa2,[],[]⟩
def df27:He.DefD:=⟨("_law_source",none),"_law_source","_law_source",defArgs abJ,defBody abJ,defScope abJ,[],[]⟩
def df28:He.DefD:=⟨("_law_draw",none),"_law_draw","_law_draw",defArgs abM,defBody abM,defScope abM,[],[]⟩
def df29:He.DefD:=⟨("_law_of",none),"_law_of","_law_of",defArgs ado,defBody ado,defScope ado,[],[]⟩
def df30:He.DefD:=⟨("_law_mixed",none),"_law_mixed","_law_mixed",defArgs ab0,defBody ab0,defScope ab0,[],[]⟩
def df31:He.DefD:=⟨("_law_same",none),"_law_same","_law_same",defArgs acu,defBody acu,defScope acu,[],[]⟩
def df32:He.DefD:=⟨("_law_fields",none),"_law_fields","_law_fields",defArgs abL,defBody abL,defScope abL,[],[]⟩
def df33:He.DefD:=⟨("_law_ask",none),"_law_ask","_law_ask",defArgs s__law_ask,defBody s__law_ask,defScope s__law_ask,[],[]⟩
def df34:He.DefD:=⟨("_law_low",none),"_law_low","_law_low",defArgs acZ,defBody acZ,defScope acZ,[],[]⟩
def df35:He.DefD:=⟨("_law_plus",none),"_law_plus","_law_plus",defArgs acv,defBody acv,defScope acv,[],[]⟩
def df36:He.DefD:=⟨("_law_less",none),"_law_less","_law_less",defArgs acw,defBody acw,defScope acw,[],[]⟩
def df37:He.DefD:=⟨("_law_least",none),"_law_least","_law_least",defArgs ab2,defBody ab2,defScope ab2,[],[]⟩
def df38:He.DefD:=⟨("_law_names",none),"_law_names","_law_names",defArgs abl,defBody abl,defScope abl,[],[]⟩
def df39:He.DefD:=⟨("_law_length",none),"_law_length","_law_length",defArgs abK,defBody abK,defScope abK,[],[]⟩
def df40:He.DefD:=⟨("_law_bare",none),"_law_bare","_law_bare",defArgs acx,defBody acx,defScope acx,[],[]⟩
def df41:He.DefD:=⟨("_law_closed",none),"_law_closed","_law_closed",defArgs abm,defBody abm,defScope abm,[],[]⟩
def df42:He.DefD:=⟨("_law_table",none),"_law_table","_law_table",defArgs abB,defBody abB,defScope abB,[],[]⟩
def df43:He.DefD:=⟨("_law_spread_plan",none),"_law_spread_plan","_law_spread_plan",defArgs aau,defBody aau,defScope aau,[],[]⟩
def df44:He.DefD:=⟨("_law_made",none),"_law_made","_law_made",defArgs ab1,defBody ab1,defScope ab1,[],[]⟩
def df45:He.DefD:=⟨("_law_told",none),"_law_told","_law_told",defArgs abI,defBody abI,defScope abI,[],[]⟩
def df46:He.DefD:=⟨("_law_places_of",none),"_law_places_of","_law_places_of",defArgs aa1,defBody aa1,defScope aa1,[],[]⟩
def df47:He.DefD:=⟨("_law_shown",none),"_law_shown","_law_shown",defArgs abC,defBody abC,defScope abC,[],[]⟩
def df48:He.DefD:=⟨("law",none),"law","law",defArgs aeS,defBody aeS,defScope aeS,[],[]⟩
def fnL:List He.DefD:=[df0,df1,df2,df3,df4,df5,df6,df7,df8,df9,df10,df11,df12,df13,df14,df17,df18,df19,df20,df21,df22,df23,df24,df25,df26,df27,df28,df29,df30,df31,df32,df33,df34,df35,df36,df37,df38,df39,df40,df41,df42,df43,df44,df45,df46,df47,df48]
def ps15:PSpec:=⟨"World","size",df15,false⟩
def ps16:PSpec:=⟨"World","layers",df16,false⟩
def faL:List He.Fa:=([.glo "is_whole",.glo "is_number",.glo "is_ratio",.glo "is_valued",.glo "lowest",.glo "ratio_of",.glo "plus",.glo "below",.glo "is_name",.glo "is_layer",.glo "is_square",.glo "first_fault",.glo "checked_table",.glo "checked_places",.mkr "World",.meth "World" "names",.meth "World" "__contains__",.meth "World" "place",.meth "World" "rows_of",.meth "World" "table",.meth "World" "__len__",.meth "World" "__bool__",.meth "World" "__eq__",.glo "names_text",.meth "World" "__repr__",.glo "_law_source",.glo "_law_draw",.glo "_law_of",.glo "_law_mixed",.glo "_law_same"]:List He.Fa)++([.glo "_law_fields",.glo "_law_ask",.glo "_law_low",.glo "_law_plus",.glo "_law_less",.glo "_law_least",.glo "_law_names",.glo "_law_length",.glo "_law_bare",.glo "_law_closed",.glo "_law_table",.glo "_law_spread_plan",.glo "_law_made",.glo "_law_told",.glo "_law_places_of",.glo "_law_shown",.glo "law",.glo "World",.cls "World",.noat "World" "own_tables",.noat "World" "own_names",.glo "InvalidRatio",.glo "InvalidTable",.glo "InvalidWay",.glo "TooMany",.glo "InvalidName",.glo "InvalidPlace",.glo "UnknownName",.glo "InvalidLayer",.glo "MilesError"]:List He.Fa)++([.glo "Missing",.glo "NothingLeft",.free "abs",.free "all",.free "any",.free "bool",.free "dict",.free "int",.free "isinstance",.free "len",.free "list",.free "range",.free "repr",.free "sorted",.free "str",.free "super",.free "tuple"]:List He.Fa)
def ad6:XSpec:=⟨"InvalidRatio",0,["code","given"],defArgs aaG,defBody aaG,defScope aaG⟩
def ad5:XSpec:=⟨"InvalidTable",0,["code","layer"],defArgs aaF,defBody aaF,defScope aaF⟩
def ae4:XSpec:=⟨"InvalidWay",0,["code","layer","start","goal"],defArgs aa8,defBody aa8,defScope aa8⟩
def ahv:XSpec:=⟨"TooMany",0,["code","subject","most"],defArgs acg,defBody acg,defScope acg⟩
def aeJ:XSpec:=⟨"InvalidName",0,["code","given"],defArgs aaR,defBody aaR,defScope aaR⟩
def ad7:XSpec:=⟨"InvalidPlace",0,["code","given"],defArgs aaH,defBody aaH,defScope aaH⟩
def aeI:XSpec:=⟨"UnknownName",1,["code","name"],defArgs aaQ,defBody aaQ,defScope aaQ⟩
def ad8:XSpec:=⟨"InvalidLayer",0,["code","given"],defArgs aaI,defBody aaI,defScope aaI⟩
def lyL:LZ:={ cs:=[("ZERO",.tup [.int 0,.int 1]),("LETTERS",.str "abcdefghijklmnopqrstuvwxyz"),("LAYERS",.tup [.str "foot",.str "cart"]),("MOST_NAMED",.int 5),("MOST_PLACES",.int 9)],bs:=[("gcd","math.gcd")],xs:=[fun K=>cvB K "World" "MOST" (.int 9),fun K=>gtB K "LAYERS" ([.str "foot",.str "cart"])],file:=PySem.Challenge.rw_missingmiles_k13_worlds_told.prog.main.file,ask:=true,ex:=[ad6,ad5,ae4,ahv,aeJ,ad7,aeI,ad8],ci:=["World"],pr:=[ps15,ps16] }
def newA (vis:Nat):List Addr->List Addr × Nat
  | []=>([],vis)
  | a::r=>match Nat.beq (Nat.land (Nat.shiftRight vis a) 1) 1 with
    | true=>newA vis r
    | false=>(a::(newA (Nat.lor vis (Nat.shiftLeft 1 a)) r).1,(newA (Nat.lor vis (Nat.shiftLeft 1 a)) r).2)
def lvA (g:Addr->Option Obj):Nat->List Addr->Nat->List Addr
  | 0,_,_=>[]
  | n + 1,fr,vis=>match newA vis (fr.flatMap fun a=>match g a with
      | some o=>He.refsD o
      | none=>[]) with
    | (nx,vis2)=>nx++lvA g n nx vis2
def asA (g:Addr->Option Obj) (n:Nat):List Addr:=(fun as=>as++cStatics::as.flatMap fun a=>match g a with
  | some ⟨_,_,.func fd,_⟩=>fd.closure.map (·.2)++He.refV fd.code
  | some ⟨.type c,_,.seq its _,_⟩=>if c == "tuple" then its.toList.flatMap He.refV else []
  | _=>[]) (mainGlobals::lvA g n [mainGlobals] (Nat.shiftLeft 1 mainGlobals))
def obsXA (n:Nat) (l:LX) (fa:List He.Fa) (fn:List He.DefD) (g:Addr->Option Obj):AlX:=(l.ok g (He.frT g (asA g n)),He.obsD fa fn (He.frT g (asA g n)))
theorem saysA_of {n:Nat} {l:LX} {fa:List He.Fa} {fn:List He.DefD} {h:Heap} (e:obsXA n l fa fn h.get?=valX fn):SaysX l fa fn h (He.frT h.get? (asA h.get? n)):=by
  have e1:l.ok h.get? (He.frT h.get? (asA h.get? n))=true:=congrArg (fun z:AlX=>z.1) e
  obtain ⟨h1,h2⟩:=He.ba e1
  have key:∀ q∈lamFns (He.frT h.get? (asA h.get? n)),PySem.W.codeHdIn (He.frT h.get? (asA h.get? n)) q.1 q.2.1=true/\(∃ o,h.get? q.2.1=some o/\He.emptyTab o=true)/\∀ q'∈lamFns (He.frT h.get? (asA h.get? n)),q.2.1=q'.2.1->q.2.2=q'.2.2:=fun q hq=>by
    obtain ⟨z1,z2⟩:=He.ba (List.all_eq_true.mp h2 q hq)
    obtain ⟨z3,z4⟩:=He.ba z2
    refine ⟨z1,?_,fun q' hq' e=>?_⟩
    · split at z3
      · rename_i o y
        exact ⟨o,y,z3⟩
      · cases z3
    · have y:=List.all_eq_true.mp z4 q' hq'
      rw [Bool.or_eq_true,bne_iff_ne,beq_iff_eq] at y
      exact y.resolve_left fun z=>z e
  refine ⟨h1,congrArg (fun z:AlX=>z.2) e,fun p hp=>(key p hp).1,fun p hp=>?_,fun p hp=>?_,fun q hq q' hq'=>(key q hq).2.2 q' hq'⟩
  · obtain ⟨_,⟨o,q,z⟩,_⟩:=key p hp
    exact He.frT_none q z
  · obtain ⟨_,⟨o,q,z⟩,_⟩:=key p hp
    rw [q,He.emptyTab_eq z]
def obsYA (n:Nat) (l:LY) (fa:List He.Fa) (fn:List He.DefD) (g:Addr->Option Obj):AlY:=(l.ok g (He.frT g (asA g n)),He.obsD fa fn (He.frT g (asA g n)),l.ex.map fun e=>exObs (He.frT g (asA g n)) (He.ga (He.frT g (asA g n)) e.name))
theorem saysYA_of {n:Nat} {l:LY} {fa:List He.Fa} {fn:List He.DefD} {h:Heap} (e:obsYA n l fa fn h.get?=valY l fn):SaysY l fa fn h (He.frT h.get? (asA h.get? n)):=by
  have e1:l.ok h.get? (He.frT h.get? (asA h.get? n))=true:=congrArg (fun z:AlY=>z.1) e
  have e2:He.obsD fa fn (He.frT h.get? (asA h.get? n))=He.valD fn:=congrArg (fun z:AlY=>z.2.1) e
  have e3:(l.ex.map fun e=>exObs (He.frT h.get? (asA h.get? n)) (He.ga (He.frT h.get? (asA h.get? n)) e.name))=l.ex.map fun e=>some e.text:=congrArg (fun z:AlY=>z.2.2) e
  obtain ⟨a1,a2⟩:=He.ba e1
  have b:obsXA n l.toLX fa fn h.get?=valX fn:=by
    show (l.toLX.ok h.get? (He.frT h.get? (asA h.get? n)),He.obsD fa fn (He.frT h.get? (asA h.get? n)))=(true,He.valD fn)
    rw [a1,e2]
  exact { saysA_of b with x:=fun e he=>xB_ok (List.all_eq_true.mp a2 e he) (List.map_inj_left.mp e3 e he) }
def obsZA (n:Nat) (l:LZ) (fa:List He.Fa) (fn:List He.DefD) (g:Addr->Option Obj):AlZ:=(l.ok (He.frT g (asA g n)),obsYA n l.toLY fa fn g,l.pr.map fun q=>fnWa (He.frT g (asA g n)) (gAt (He.frT g (asA g n)) (He.ga (He.frT g (asA g n)) q.cls) q.prop))
theorem als {n:Nat} {l:LZ} {fa:List He.Fa} {fn:List He.DefD} {h:Heap} (e:obsZA n l fa fn h.get?=valZ l fn):SaysZ l fa fn h (He.frT h.get? (asA h.get? n)):=by
  have e1:l.ok (He.frT h.get? (asA h.get? n))=true:=congrArg (fun z:AlZ=>z.1) e
  have e2:obsYA n l.toLY fa fn h.get?=valY l.toLY fn:=congrArg (fun z:AlZ=>z.2.1) e
  have e3:(l.pr.map fun q=>fnWa (He.frT h.get? (asA h.get? n)) (gAt (He.frT h.get? (asA h.get? n)) (He.ga (He.frT h.get? (asA h.get? n)) q.cls) q.prop))=l.pr.map fun q=>q.df.val:=congrArg (fun z:AlZ=>z.2.2) e
  obtain ⟨a1,a2⟩:=He.ba e1
  exact { saysYA_of e2 with ci:=fun C hC=>cB_ok (List.all_eq_true.mp a1 C hC),pr:=fun q hq=>pB_ok (List.all_eq_true.mp a2 q hq) (List.map_inj_left.mp e3 q hq) }
def hookZA (n:Nat) (l:LZ) (fa:List He.Fa) (fn:List He.DefD):PySem.W.Hook where
  α:=AlZ
  obs:=fun s=>obsZA n l fa fn s.heap.get?
  val:=fun _=>valZ l fn
  says:=fun _ h=>∃ K:PySem.W.Frag,K.In h/\SaysZ l fa fn h K
  of:=fun _ _ e=>⟨_,He.frT_in,als e⟩
  keeps:=fun _ _ _ ⟨K,hK,c⟩ k=>⟨K,PySem.W.Frag.In.keeps hK k,⟨⟨⟨c.c,c.s,c.tc,c.tn,fun p hp=>k _ _ (c.te p hp),c.tu⟩,c.x⟩,c.ci,c.pr⟩⟩
theorem ana {n:Nat} {l:LZ} {fa:List He.Fa} {fn:List He.DefD} {g:Addr->Option Obj} {s:Shared} (h:∀ a,g a=s.heap.get? a):obsZA n l fa fn g=(hookZA n l fa fn).obs s:=by
  have e:g=s.heap.get?:=funext h
  rw [e]<;>rfl
abbrev RR:PySem.W.OpenRow:=PySem.W.OpenLaw.row PySem.Challenge.rw_missingmiles_k13_worlds_told
abbrev hk:PySem.W.Hook:=hookZA 4 lyL faL fnL
def ob (s:PySem.W.SharedT):AlZ:=obsZA 4 lyL faL fnL (HandSHeadRun.getT s)
theorem ob_eq (s:PySem.W.SharedT):ob s=hk.obs s.abs:=ana (HandSHeadRun.getT_eq s)
def names:List PySem.Str:=(["_wall","MilesError","Missing","InvalidRatio","InvalidName","InvalidLayer","InvalidTable","InvalidWay","InvalidPlace","TooMany","UnknownName","NothingLeft","ZERO","is_whole","is_number","is_ratio","is_valued","lowest","ratio_of","plus","below","LETTERS","LAYERS","MOST_NAMED","is_name","is_layer","names_text","MOST_PLACES","is_square","first_fault"]:List PySem.Str)++(["checked_table","checked_places","World","_law_source","_law_draw","_law_of","_law_mixed","_law_same","_law_fields","_law_ask","_law_low","_law_plus","_law_less","_law_least","_law_names","_law_length","_law_bare","_law_closed","_law_table","_law_made","_law_told","_law_places_of","_law_spread_plan","_law_shown"]:List PySem.Str)
abbrev qv:Program:=PySem.W.view RR.prog [0,60]
theorem alv {α γ:Type} {β0:Type} {β1:Type} {β2:Type} {β3:Type} {o:Option α} {f0:α->β0} {b0:β0} {f1:α->β1} {b1:β1} {f2:α->β2} {b2:β2} {f3:α->β3} {b3:β3} {f:α->γ} {b:γ} (h0:o.map f0=some b0) (h1:o.map f1=some b1) (h2:o.map f2=some b2) (h3:o.map f3=some b3) (h:∀ x,f0 x=b0->f1 x=b1->f2 x=b2->f3 x=b3->f x=b):o.map f=some b:=by
  cases o with
  | none=>cases h0
  | some x=>
    show some (f x)=some b
    rw [h x (Option.some.inj h0) (Option.some.inj h1) (Option.some.inj h2) (Option.some.inj h3)]
theorem aop {T1:Type} {T6:Type} {T7:Type} {T8:Type} {a0 b0:Bool} (h0:a0=b0) {a1 b1:T1} (h1:a1=b1) {a2 b2:Bool} (h2:a2=b2) {a3 b3:Bool} (h3:a3=b3) {a4 b4:Bool} (h4:a4=b4) {a5 b5:Bool} (h5:a5=b5) {a6 b6:T6} (h6:a6=b6) {a7 b7:T7} (h7:a7=b7) {a8 b8:T8} (h8:a8=b8):(a0,a1,(a2,(a3,(a4 && a5,a6),a7),a8))=(b0,b1,(b2,(b3,(b4 && b5,b6),b7),b8)):=by
  subst h0 h1 h2 h3 h4 h5 h6 h7 h8
  rfl
theorem runG0 (w:World):(HandSHeadRun.wholeF (fun p=>HandSHeadRun.stepQ (HandSHeadRun.denQ HandSHeadRun.tabQ) p w) HandSHeadRun.fenceQ 9000 RR.prog).map (fun x=>(HandSHeadRun.looksF RR.prog x.1.heap x.2.abs,lyL.ok (He.frT (HandSHeadRun.getT x.2) (asA (HandSHeadRun.getT x.2) 4)),lyL.toLY.ex.map fun e=>exObs (He.frT (HandSHeadRun.getT x.2) (asA (HandSHeadRun.getT x.2) 4)) (He.ga (He.frT (HandSHeadRun.getT x.2) (asA (HandSHeadRun.getT x.2) 4)) e.name),lyL.pr.map fun q=>fnWa (He.frT (HandSHeadRun.getT x.2) (asA (HandSHeadRun.getT x.2) 4)) (gAt (He.frT (HandSHeadRun.getT x.2) (asA (HandSHeadRun.getT x.2) 4)) (He.ga (He.frT (HandSHeadRun.getT x.2) (asA (HandSHeadRun.getT x.2) 4)) q.cls) q.prop)))=some ((true,true,lyL.toLY.ex.map fun e=>some e.text,lyL.pr.map fun q=>q.df.val)):=by
  kernel_rfl
theorem runG1 (w:World):(HandSHeadRun.wholeF (fun p=>HandSHeadRun.stepQ (HandSHeadRun.denQ HandSHeadRun.tabQ) p w) HandSHeadRun.fenceQ 9000 RR.prog).map (fun x=>(HandSHeadRun.seenQ qv names (importedModules RR.prog.main.body) (fun s=>PySem.W.xlAt qv [] s && PySem.W.recOk RR.toRowW.records s) x.2.abs,faL.all fun f=>f.ok (He.frT (HandSHeadRun.getT x.2) (asA (HandSHeadRun.getT x.2) 4))))=some ((PySem.W.openGood qv names,true)):=by
  kernel_rfl
theorem runG2 (w:World):(HandSHeadRun.wholeF (fun p=>HandSHeadRun.stepQ (HandSHeadRun.denQ HandSHeadRun.tabQ) p w) HandSHeadRun.fenceQ 9000 RR.prog).map (fun x=>lyL.toLY.ok (HandSHeadRun.getT x.2) (He.frT (HandSHeadRun.getT x.2) (asA (HandSHeadRun.getT x.2) 4)))=some (true):=by
  kernel_rfl
theorem runG3 (w:World):(HandSHeadRun.wholeF (fun p=>HandSHeadRun.stepQ (HandSHeadRun.denQ HandSHeadRun.tabQ) p w) HandSHeadRun.fenceQ 9000 RR.prog).map (fun x=>(fnL.all fun d=>d.ok (He.frT (HandSHeadRun.getT x.2) (asA (HandSHeadRun.getT x.2) 4)),fnL.map fun d=>He.fnW (He.frT (HandSHeadRun.getT x.2) (asA (HandSHeadRun.getT x.2) 4)) d.at_))=some ((true,fnL.map He.DefD.val)):=by
  kernel_rfl
theorem runA (w:World):(HandSHeadRun.wholeF (fun p=>HandSHeadRun.stepQ (HandSHeadRun.denQ HandSHeadRun.tabQ) p w) HandSHeadRun.fenceQ 9000 RR.prog).map (fun x=>(HandSHeadRun.looksF RR.prog x.1.heap x.2.abs,HandSHeadRun.seenQ qv names (importedModules RR.prog.main.body) (fun s=>PySem.W.xlAt qv [] s && PySem.W.recOk RR.toRowW.records s) x.2.abs,ob x.2))=some (true,PySem.W.openGood qv names,hk.val w):=
  alv (runG0 w) (runG1 w) (runG2 w) (runG3 w) fun x e0 e1 e2 e3=>aop (congrArg (fun z=>z.1) e0) (congrArg (fun z=>z.1) e1) (congrArg (fun z=>z.2.1) e0) e2 (congrArg (fun z=>z.2) e1) (congrArg (fun z=>z.1) e3) (congrArg (fun z=>z.2) e3) (congrArg (fun z=>z.2.2.1) e0) (congrArg (fun z=>z.2.2.2) e0)
theorem run (w:World):HandSHeadRun.RunEqI RR qv hk ob 9000 names w:=runA w
end
end K13
set_option maxHeartbeats 2000000
namespace DL
open PySem PySem.Spec PyProof.Rows L2
theorem mulW {i j:Int} {B C:Nat} (h1:i.natAbs < 2 ^ B) (h2:j.natAbs < 2 ^ C) (h:B + C<=900000):CMulW i j:=wide_mul (a:=B + 1) (b:=C + 1) (Nat.lt_of_lt_of_le h1 (Nat.pow_le_pow_right (by decide) (by omega))) (Nat.lt_of_lt_of_le h2 (Nat.pow_le_pow_right (by decide) (by omega))) (by omega) (by omega) (by omega)
theorem nbd {B:Nat} {q:Rat} (h:Nb B q):(q.den:Int).natAbs < 2 ^ B:=by simpa using h.d
theorem akE {p q:Rat} (hp:Nb 3900 p) (hq:Nb 3900 q):((p.den:Int) * (q.den:Int)).natAbs < 2 ^ 8000:=by
  rw [Int.natAbs_mul]
  refine Nat.lt_of_lt_of_le (Nat.mul_lt_mul'' (nbd hp) (nbd hq)) ?_
  rw [<- Nat.pow_add]
  exact Nat.pow_le_pow_right (by decide) (by decide)
theorem akg {p q:Rat} (e:(p.den:Int)=q.den):p + q=Rat.divInt (p.num + q.num) p.den:=by
  have h0:=den_pos p
  rw [<- ahZ,<- e,<- Int.add_mul,Rat.divInt_eq_divInt_iff (by exact Int.ne_of_gt (Int.mul_pos h0 h0)) (by omega),Int.mul_assoc]
def low (c:Nat):Bool:=decide (c∈("abcdefghijklmnopqrstuvwxyz":Str).cps.toList)
def nameOk (z:Str):Bool:=decide (1<=z.length) && decide (z.length<=5) && z.cps.toList.all low
def nameB:D->Bool
  | .str z=>nameOk z
  | _=>false
def lowD:D->D
  | .str s=>.bl (match s.cps.toList with | [c]=>low c | _=>false)
  | _=>.bl false
def rowX (n:Nat) (x:Nat->D):D:=.lst ((List.range n).map x)
def tabX (n:Nat) (x:Nat->Nat->D):D:=.lst ((List.range n).map fun i=>rowX n (x i))
def tabD (n:Nat) (f:Nat->Nat->Rat):D:=tabX n fun i j=>rD (f i j)
structure GoodF (n:Nat) (f:Nat->Nat->Rat):Prop where
  pos:∀ i j,i < n->j < n->0<=f i j
  dia:∀ i,i < n->f i i=0
  tri:∀ i j k,i < n->j < n->k < n->f i j<=f i k + f k j
def leastQ (p q:Rat):Rat:=if q < p then q else p
def stepF (f:Nat->Nat->Rat) (m:Nat):Nat->Nat->Rat:=fun i j=>leastQ (f i j) (f i m + f m j)
def closeF (f:Nat->Nat->Rat):Nat->Nat->Nat->Rat
  | 0=>f
  | m + 1=>stepF (closeF f m) m
theorem alQ (p q:Rat):leastQ p q<=p:=by
  unfold leastQ
  split
  · grind
  · grind
theorem alP (p q:Rat):leastQ p q<=q:=by
  unfold leastQ
  split
  · grind
  · grind
theorem least_or (p q:Rat):leastQ p q=p\/leastQ p q=q:=by
  unfold leastQ
  split
  · exact .inr rfl
  · exact .inl rfl
structure UpTo (n m:Nat) (g:Nat->Nat->Rat):Prop where
  pos:∀ i j,i < n->j < n->0<=g i j
  dia:∀ i,i < n->g i i=0
  tri:∀ i j k,i < n->j < n->k < m->g i j<=g i k + g k j
theorem aoc {n m:Nat} {g:Nat->Nat->Rat} (h:UpTo n m g) (hm:m < n):UpTo n (m + 1) (stepF g m):=by
  have col:∀ i,i < n->stepF g m i m=g i m:=fun i hi=>by
    unfold stepF leastQ
    have:=h.dia m hm
    split
    · rename_i z;grind
    · rfl
  have row:∀ j,j < n->stepF g m m j=g m j:=fun j hj=>by
    unfold stepF leastQ
    have:=h.dia m hm
    split
    · rename_i z;grind
    · rfl
  refine ⟨fun i j hi hj=>?_,fun i hi=>?_,fun i j k hi hj hk=>?_⟩
  · have h1:=h.pos i j hi hj
    have h2:=h.pos i m hi hm
    have h3:=h.pos m j hm hj
    unfold stepF
    rcases least_or (g i j) (g i m + g m j) with e | e<;>rw [e]
    · exact h1
    · grind
  · have h1:=h.dia i hi
    have h2:=h.pos i m hi hm
    have h3:=h.pos m i hm hi
    unfold stepF leastQ
    split
    · grind
    · exact h1
  · have l1:=alQ (g i j) (g i m + g m j)
    have l2:=alP (g i j) (g i m + g m j)
    by_cases e:k=m
    · subst e
      rw [col i hi,row j hj]
      exact l2
    · have hk':k < m:=by omega
      have kn:k < n:=by omega
      show leastQ (g i j) (g i m + g m j)<=leastQ (g i k) (g i m + g m k) + leastQ (g k j) (g k m + g m j)
      have t1:=h.tri i j k hi hj hk'
      have t2:=h.tri m j k hm hj hk'
      have t3:=h.tri i m k hi hm hk'
      have p1:=h.pos m k hm kn
      have p2:=h.pos k m kn hm
      rcases least_or (g i k) (g i m + g m k) with e1 | e1<;>rcases least_or (g k j) (g k m + g m j) with e2 | e2<;>rw [e1,e2]<;>grind
theorem akI {n:Nat} {f:Nat->Nat->Rat} (h1:∀ i j,i < n->j < n->0<=f i j) (h2:∀ i,i < n->f i i=0):∀ m,m<=n->UpTo n m (closeF f m)
  | 0,_=>⟨h1,h2,fun _ _ _ _ _ z=>absurd z (by omega)⟩
  | m + 1,h=>aoc (akI h1 h2 m (by omega)) (by omega)
theorem ak5 {n:Nat} {f:Nat->Nat->Rat} (h1:∀ i j,i < n->j < n->0<=f i j) (h2:∀ i,i < n->f i i=0):GoodF n (closeF f n):=
  let u:=akI h1 h2 n (Nat.le_refl _)
  ⟨u.pos,u.dia,u.tri⟩
def bitsF:Nat->Nat
  | 0=>40
  | m + 1=>2 * bitsF m + 1
theorem aeE {n:Nat} {f:Nat->Nat->Rat} (h:∀ i j,i < n->j < n->Nb 40 (f i j)):∀ m,m<=n->∀ i j,i < n->j < n->Nb (bitsF m) (closeF f m i j)
  | 0,_,i,j,hi,hj=>h i j hi hj
  | m + 1,hm,i,j,hi,hj=>by
    have a:=aeE h m (by omega) i j hi hj
    have b:=aeE h m (by omega) i m hi (by omega)
    have c:=aeE h m (by omega) m j (by omega) hj
    show Nb (2 * bitsF m + 1) (leastQ (closeF f m i j) (closeF f m i m + closeF f m m j))
    rcases least_or (closeF f m i j) (closeF f m i m + closeF f m m j) with e | e<;>rw [e]
    · exact a.mono (by omega)
    · exact (alI b c).mono (by omega)
section
variable {g:TDG} {tt:TDT} {te:TD} {vs:List Nat} {Q:DV->DSt->Prop}
theorem ajQ (f:Nat->D) (S:DSt) {n:Nat} (hl:n<=szl)
    (step:∀ i,i < n->∀ (M:D->DSt->Prop) (A:DSt->Prop),M (f i) S->g (.int (i:Int)) S fun s1=>tt s1 (fun b s2=>Br b (te s2 (fun x s3=>match pubV x with
      | .d y=>M y (wipeD s3 vs)
      | _=>False) fun _ _ _=>False) (A (wipeD s2 vs))) fun _ _ _=>False) (q:Q (.own (.lst ((List.range n).map f))) S):dLcL g tt te vs Q (intsFrom 0 n) [] S:=by
  refine adr (fun d=>match d with | .int i=>f i.toNat | _=>.non) S (by rw [acB];exact hl) (fun d hd M A m=>?_) ?_
  · obtain ⟨i,hi,rfl⟩:=adw hd
    have e:(0:Int) + (i:Int)=(i:Int):=by omega
    rw [e] at m ⊢
    exact step i hi M A (by simpa using m)
  · rw [akA]
    have e:(List.range n).map (fun (i:Nat)=>(match D.int ((0:Int) + (i:Int)) with | .int i=>f i.toNat | _=>.non))=(List.range n).map f:=List.map_congr_left fun i _=>by
      show f ((0:Int) + (i:Int)).toNat=f i
      congr 1;omega
    rw [e];exact q
theorem af6 (R:Nat->D->Prop) (S:DSt) {n:Nat} (hl:n<=szl)
    (step:∀ i,i < n->∀ (M:D->DSt->Prop) (A:DSt->Prop),(∀ y,R i y->M y S)->g (.int (i:Int)) S fun s1=>tt s1 (fun b s2=>Br b (te s2 (fun x s3=>match pubV x with
      | .d y=>M y (wipeD s3 vs)
      | _=>False) fun _ _ _=>False) (A (wipeD s2 vs))) fun _ _ _=>False) (q:∀ f:Nat->D,(∀ i,i < n->R i (f i))->Q (.own (.lst ((List.range n).map f))) S):dLcL g tt te vs Q (intsFrom 0 n) [] S:=by
  have go:∀ (k:Nat) (f:Nat->D) (acc:List D) (i:Nat),i + k=n->acc=(List.range i).map f->(∀ j,j < i->R j (f j))->dLcL g tt te vs Q (intsFrom (i:Int) k) acc S:=by
    intro k
    induction k with
    | zero=>
      intro f acc i h1 h2 h3
      show dLcL g tt te vs Q [] acc S
      rw [lcL_nil,h2]
      have e:i=n:=by omega
      subst e
      exact q f h3
    | succ k ih=>
      intro f acc i h1 h2 h3
      show dLcL g tt te vs Q (.int (i:Int)::intsFrom ((i:Int) + 1) k) acc S
      rw [afe]
      refine step i (by omega) (fun y s=>acc.length < szl/\dLcL g tt te vs Q (intsFrom ((i:Int) + 1) k) (acc++[y]) s) (fun s=>dLcL g tt te vs Q (intsFrom ((i:Int) + 1) k) acc s) (fun y hy=>⟨by rw [h2,List.length_map,List.length_range];omega,?_⟩)
      have e:((i:Int) + 1)=((i + 1:Nat):Int):=by omega
      rw [e]
      refine ih (fun j=>if j=i then y else f j) (acc++[y]) (i + 1) (by omega) ?_ (fun j hj=>?_)
      · rw [List.range_succ,List.map_append,h2]
        congr 1
        · exact List.map_congr_left fun j hj=>by
            have:=List.mem_range.mp hj
            show f j=if j=i then y else f j
            rw [if_neg (by omega)]
        · show [y]=[if i=i then y else f i]
          rw [if_pos rfl]
      · by_cases ej:j=i
        · subst ej
          show R j (if j=j then y else f j)
          rw [if_pos rfl];exact hy
        · show R j (if j=i then y else f j)
          rw [if_neg ej];exact h3 j (by omega)
  exact go n (fun _=>.non) [] 0 (by omega) rfl (fun j hj=>absurd hj (by omega))
end
theorem akL {f:Nat->D} {n i:Nat} (h:i < n):atI ((List.range n).map f) (i:Int)=some (f i):=ajr (by rw [List.getElem?_range h])
theorem ajS {n i:Nat} {x:Nat->Nat->D} {Q:DV->Prop} (h:i < n) (q:Q (.d (rowX n (x i)))):ixR (.d (tabX n x)) (.d (.int (i:Int))) Q:=aej (ds:=(List.range n).map fun i=>rowX n (x i)) rfl (akL h) q
theorem ajT {n i:Nat} {x:Nat->D} {Q:DV->Prop} (h:i < n) (q:Q (.d (x i))):ixR (.d (rowX n x)) (.d (.int (i:Int))) Q:=aej (ds:=(List.range n).map x) rfl (akL h) q
theorem aeb {n:Nat} {x:Nat->Nat->D} {Q:DV->Prop} (q:Q (.d (.int (n:Int)))):lenR [.d (tabX n x)] Q:=acR (ds:=(List.range n).map fun i=>rowX n (x i)) rfl (by rw [List.length_map,List.length_range];exact q)
def nmD (ks:List Str) (pl:Str->Nat):List (Key × D):=ks.map fun z=>(Sum.inr z,.int (pl z))
theorem agI {ks:List Str} {pl:Str->Nat} {z:Str}:valD (nmD ks pl) (.inr z)=if z∈ks then some (.int (pl z)) else none:=by
  induction ks with
  | nil=>rfl
  | cons y r ih=>
    show valD ((Sum.inr y,D.int (pl y))::nmD r pl) (.inr z)=_
    by_cases e:y=z
    · subst e
      rw [aez rfl,if_pos (List.mem_cons_self ..)]
    · rw [aeA (fun h=>e (Sum.inr.inj h)),ih]
      by_cases m:z∈r
      · rw [if_pos m,if_pos (List.mem_cons_of_mem _ m)]
      · rw [if_neg m,if_neg (fun h=>by rcases List.mem_cons.mp h with h | h;exact e h.symm;exact m h)]
theorem agz {kvs:List (Key × D)} {k:Key} {d:D} (h:valD kvs k=none):putKD kvs k d=kvs++[(k,d)]:=by
  unfold putKD
  rw [if_neg]
  intro z
  obtain ⟨p,hp,e⟩:=List.any_eq_true.mp z
  have:∀ l:List (Key × D),p∈l->valD l k≠none:=by
    intro l
    induction l with
    | nil=>intro h;cases h
    | cons q r ih=>
      intro h
      by_cases e2:q.1=k
      · rw [aez e2];simp
      · rw [aeA e2]
        rcases List.mem_cons.mp h with h | h
        · subst h;exact absurd (of_decide_eq_true e) e2
        · exact ih h
  exact this kvs hp h
theorem akr (pl:Str->Nat):∀ (ks done:List Str),(done++ks).Nodup->mergeD (nmD done pl) (nmD ks pl)=nmD (done++ks) pl
  | [],done,_=>by rw [List.append_nil];rfl
  | z::r,done,h=>by
    show mergeD (putKD (nmD done pl) (.inr z) (.int (pl z))) (nmD r pl)=_
    have nz:z∉done:=fun m=>by
      have:=List.nodup_append.mp h
      exact this.2.2 z m z (List.mem_cons_self ..) rfl
    rw [agz (by rw [agI,if_neg nz])]
    have e:nmD done pl++[(Sum.inr z,D.int (pl z))]=nmD (done++[z]) pl:=by unfold nmD;rw [List.map_append];rfl
    rw [e,akr pl r (done++[z]) (by rw [List.append_assoc];exact h),List.append_assoc];rfl
theorem ah2 (pl:Str->Nat):∀ ks:List Str,pairsD (ks.map fun z=>D.tup [.str z,.int (pl z)])=some (nmD ks pl)
  | []=>rfl
  | z::r=>by
    show pairsD (D.tup [.str z,.int (pl z)]::r.map fun z=>D.tup [.str z,.int (pl z)])=_
    unfold pairsD
    rw [ah2 pl r];rfl
def rOfD (d:D):D:=match ratOf d with
  | some q=>rD q
  | none=>d
theorem an8 {xs:List D} {i:Nat} {x:D} (h:xs[i]?=some x):atI xs (i:Int)=some x:=by
  have:=ajr (f:=fun d:D=>d) h
  rw [List.map_id'] at this
  exact this
theorem aiw {xs:List D} {x:D}:atI (x::xs) 0=some x:=an8 (i:=0) rfl
theorem anE (a b:List Nat):wd a++wd b=wd (a++b):=by
  show (⟨a.toArray++b.toArray⟩:Str)=⟨(a++b).toArray⟩
  simp
theorem amF {cs:List Nat} {k:Nat} (h:k<=cs.length):cutS (wd cs) none (some (k:Int))=wd (cs.take k):=by
  have l:(wd cs).length=cs.length:=ahy cs
  unfold cutS
  have e1:HT.sIx (wd cs).length 0 none=0:=rfl
  have e2:HT.sIx (wd cs).length (wd cs).length (some (k:Int))=k:=by rw [HT.sIx_nat,l];omega
  rw [e1,e2]
  show (⟨((cs.toArray.toList.drop 0).take (k - 0)).toArray⟩:Str)=⟨(cs.take k).toArray⟩
  simp
theorem amG {cs:List Nat} {k:Nat} (h:k<=cs.length):cutS (wd cs) (some (k:Int)) none=wd (cs.drop k):=by
  have l:(wd cs).length=cs.length:=ahy cs
  unfold cutS
  have e1:HT.sIx (wd cs).length (wd cs).length none=cs.length:=l
  have e2:HT.sIx (wd cs).length 0 (some (k:Int))=k:=by rw [HT.sIx_nat,l];omega
  rw [e1,e2]
  show (⟨((cs.toArray.toList.drop k).take (cs.length - k)).toArray⟩:Str)=⟨(cs.drop k).toArray⟩
  have e3:(cs.drop k).take (cs.length - k)=cs.drop k:=List.take_of_length_le (by rw [List.length_drop];omega)
  simp [e3]
theorem aoH {l:List Nat} (h1:1<=l.length) (h5:l.length<=5) (h:∀ c∈l,low c=true):nameOk (wd l)=true:=by
  unfold nameOk
  rw [ahy,decide_eq_true h1,decide_eq_true h5]
  show (l.toArray.toList.all low)=true
  rw [List.all_eq_true]
  intro c hc
  exact h c (by simpa using hc)
theorem anD {a b:List Nat} (h:wd a=wd b):a=b:=by
  have:=congrArg (fun z:Str=>z.cps.toList) h
  simpa using this
theorem aew {α:Type} {xs:List α} {k:Nat}:cut xs none (some (k:Int))=xs.take k:=by
  unfold cut
  have e1:HT.sIx xs.length 0 none=0:=rfl
  have e2:HT.sIx xs.length xs.length (some (k:Int))=min k xs.length:=HT.sIx_nat _ _ _
  rw [e1,e2,List.drop_zero,Nat.sub_zero]
  rcases Nat.le_total k xs.length with h | h
  · rw [Nat.min_eq_left h]
  · rw [Nat.min_eq_right h,List.take_of_length_le (Nat.le_refl _),List.take_of_length_le h]
theorem afp {α:Type} {f:α->D} {P:α->Prop}:∀ {es:List D},(∀ x∈es,∃ a,x=f a/\P a)->∃ as:List α,es=as.map f/\∀ a∈as,P a
  | [],_=>⟨[],rfl,fun _ h=>by cases h⟩
  | x::r,h=>by
    obtain ⟨a,rfl,ha⟩:=h x (List.mem_cons_self ..)
    obtain ⟨as,rfl,h2⟩:=afp (es:=r) fun y hy=>h y (List.mem_cons_of_mem _ hy)
    refine ⟨a::as,rfl,fun z hz=>?_⟩
    rcases List.mem_cons.mp hz with rfl | hz
    · exact ha
    · exact h2 z hz
theorem ahF {α:Type} {f:α->D} {as:List α} (h:(as.map f).Nodup):as.Nodup:=by
  induction as with
  | nil=>exact List.nodup_nil
  | cons a r ih=>
    rw [List.map_cons,List.nodup_cons] at h
    rw [List.nodup_cons]
    exact ⟨fun m=>h.1 (List.mem_map.mpr ⟨a,m,rfl⟩),ih h.2⟩
theorem aja {α β:Type} {f:α->β} (inj:∀ a b,f a=f b->a=b) {as:List α} (h:as.Nodup):(as.map f).Nodup:=by
  induction as with
  | nil=>exact List.nodup_nil
  | cons a r ih=>
    rw [List.nodup_cons] at h
    rw [List.map_cons,List.nodup_cons]
    refine ⟨fun m=>?_,ih h.2⟩
    obtain ⟨b,hb,e⟩:=List.mem_map.mp m
    exact h.1 (inj b a e ▸ hb)
theorem ahJ:∀ (n:Nat) (lo:Int),(intsFrom lo n).Nodup
  | 0,_=>List.nodup_nil
  | n + 1,lo=>by
    show (D.int lo::intsFrom (lo + 1) n).Nodup
    rw [List.nodup_cons]
    refine ⟨fun m=>?_,ahJ n (lo + 1)⟩
    obtain ⟨i,_,e⟩:=adw m
    injection e with e
    omega
theorem apU:∀ (ks:List Str) (qs:List Nat),ks.Nodup->ks.length<=qs.length->∃ pl:Str->Nat,∀ (k:Nat) (z:Str),ks[k]?=some z->qs[k]?=some (pl z)
  | [],_,_,_=>⟨fun _=>0,fun k z h=>by simp at h⟩
  | y::r,[],_,h=>by simp at h
  | y::r,q::s,nd,h=>by
    rw [List.nodup_cons] at nd
    obtain ⟨pl,hp⟩:=apU r s nd.2 (by simpa using h)
    refine ⟨fun z=>if z=y then q else pl z,fun k z hk=>?_⟩
    match k,hk with
    | 0,hk=>
      have e:y=z:=by simpa using hk
      subst e
      show some q=some (if y=y then q else pl y)
      rw [if_pos rfl]
    | k + 1,hk=>
      have hk':r[k]?=some z:=by simpa using hk
      have ne:z≠y:=fun e=>nd.1 (e ▸ List.mem_of_getElem? hk')
      have:s[k]?=some (pl z):=hp k z hk'
      show (q::s)[k + 1]?=some (if z=y then q else pl z)
      rw [if_neg ne]
      simpa using this
theorem aos {α:Type} {xs:List α} {g:Nat->D} {f:α->D} (h:∀ (k:Nat) (x:α),xs[k]?=some x->g k=f x):(List.range xs.length).map g=xs.map f:=by
  refine List.ext_getElem? fun k=>?_
  rw [List.getElem?_map,List.getElem?_map]
  rcases Nat.lt_or_ge k xs.length with hk | hk
  · rw [List.getElem?_range hk,List.getElem?_eq_getElem hk]
    show some (g k)=some (f xs[k])
    rw [h k xs[k] (List.getElem?_eq_getElem hk)]
  · rw [List.getElem?_eq_none (by rw [List.length_range];exact hk),List.getElem?_eq_none hk];rfl
def leS (a b:Str):Prop:=ltCps b.cps.toList a.cps.toList=false
theorem afD {a b:Str}:leS a b ↔ a.cps.toList<=b.cps.toList:=by
  unfold leS
  rw [ltCps_eq]
  rw [decide_eq_false_iff_not,List.not_lt]
theorem aks (a:Str):leS a a:=afD.mpr (List.le_refl _)
theorem alR {a b c:Str} (h:leS a b) (h2:leS b c):leS a c:=afD.mpr (List.le_trans (afD.mp h) (afD.mp h2))
theorem anh {a b:Str} (h:leS a b) (h2:leS b a):a=b:=by
  have e:=List.le_antisymm (afD.mp h) (afD.mp h2)
  cases a with | mk x=>cases b with | mk y=>
  have:x=y:=Array.toList_inj.mp e
  rw [this]
theorem aiX:∀ (p:Str) (l:List Str),risingS p l=true->(p::l).Pairwise leS
  | p,[],_=>List.pairwise_singleton ..
  | p,x::r,h=>by
    have h0:(!ltCps x.cps.toList p.cps.toList && risingS x r)=true:=h
    rw [Bool.and_eq_true] at h0
    have h1:leS p x:=by unfold leS;simpa using h0.1
    have h2:=aiX x r h0.2
    refine List.pairwise_cons.mpr ⟨fun y hy=>?_,h2⟩
    rcases List.mem_cons.mp hy with rfl | hy
    · exact h1
    · exact alR h1 ((List.pairwise_cons.mp h2).1 y hy)
theorem aiI {l:List Str} (h:sortedS l=true):l.Pairwise leS:=by
  cases l with
  | nil=>exact .nil
  | cons x r=>exact aiX x r h
theorem alB:∀ {a b:List Str},a.Pairwise leS->b.Pairwise leS->a.Perm b->a=b
  | [],b,_,_,h=>(List.nil_perm.mp h).symm ▸ rfl
  | x::r,[],_,_,h=>by have:=h.length_eq;simp at this
  | x::r,y::t,h1,h2,h=>by
    obtain ⟨p1,p2⟩:=List.pairwise_cons.mp h1
    obtain ⟨q1,q2⟩:=List.pairwise_cons.mp h2
    have e:x=y:=by
      refine anh ?_ ?_
      · rcases List.mem_cons.mp (h.mem_iff.mpr (List.mem_cons_self ..):y∈x::r) with e | m
        · rw [e];exact aks _
        · exact p1 y m
      · rcases List.mem_cons.mp (h.mem_iff.mp (List.mem_cons_self ..):x∈y::t) with e | m
        · rw [e];exact aks _
        · exact q1 x m
    subst e
    rw [alB p2 q2 ((List.perm_cons x).mp h)]
theorem aaJ {a b:List Str} (h1:sortedS a=true) (h2:sortedS b=true) (h:a.Perm b):a=b:=alB (aiI h1) (aiI h2) h
def kvD (ks:List Str) (val:Str->D):List (Key × D):=ks.map fun z=>(Sum.inr z,val z)
theorem afh (ks:List Str) (val:Str->D):(kvD ks val).map (·.1)=ks.map Sum.inr:=by unfold kvD;rw [List.map_map];rfl
theorem afE (ks:List Str) (val:Str->D):(kvD ks val).length=ks.length:=by unfold kvD;rw [List.length_map]
theorem adV {ks:List Str} {val:Str->D} {z:Str}:valD (kvD ks val) (.inr z)=if z∈ks then some (val z) else none:=by
  induction ks with
  | nil=>rfl
  | cons y r ih=>
    show valD ((Sum.inr y,val y)::kvD r val) (.inr z)=_
    by_cases e:y=z
    · subst e
      rw [aez rfl,if_pos (List.mem_cons_self ..)]
    · rw [aeA (fun h=>e (Sum.inr.inj h)),ih]
      by_cases m:z∈r
      · rw [if_pos m,if_pos (List.mem_cons_of_mem _ m)]
      · rw [if_neg m,if_neg (fun h=>by rcases List.mem_cons.mp h with h | h;exact e h.symm;exact m h)]
theorem al7 (a b:List Str) (val:Str->D):kvD (a++b) val=kvD a val++kvD b val:=by unfold kvD;rw [List.map_append]
def plF (val:Str->D) (n:Nat):List D->List Str->Option D
  | _,[]=>none
  | tk,z::r=>if numD 0 ((n:Int) - 1) (val z) && !inF (val z) tk then plF val n (tk++[val z]) r else some (val z)
theorem ajF {val:Str->D} {n:Nat} {tk:List D} {z:Str} {r:List Str} (h1:numD 0 ((n:Int) - 1) (val z)=true) (h2:inF (val z) tk=false):plF val n tk (z::r)=plF val n (tk++[val z]) r:=by
  show (if numD 0 ((n:Int) - 1) (val z) && !inF (val z) tk then plF val n (tk++[val z]) r else some (val z))=_
  rw [h1,h2];rfl
theorem ah0 {val:Str->D} {n:Nat} {tk:List D} {z:Str} {r:List Str} (h:numD 0 ((n:Int) - 1) (val z)=false\/inF (val z) tk=true):plF val n tk (z::r)=some (val z):=by
  show (if numD 0 ((n:Int) - 1) (val z) && !inF (val z) tk then plF val n (tk++[val z]) r else some (val z))=_
  rcases h with h | h<;>rw [h]
  · rfl
  · rw [Bool.not_true,Bool.and_false];rfl
theorem akl {pl:Str->Nat} {n:Nat}:∀ (ys dn:List Str),(dn++ys).Nodup->(∀ z∈dn++ys,pl z < n)->(∀ z∈dn++ys,∀ y∈dn++ys,pl z=pl y->z=y)->plF (fun z=>.int (pl z)) n (dn.map fun z=>D.int (pl z)) ys=none
  | [],_,_,_,_=>rfl
  | z::r,dn,hn,hl,hi=>by
    have mz:z∈dn++z::r:=by simp
    have lz:=hl z mz
    have e3:numD 0 ((n:Int) - 1) (.int (pl z))=true:=by
      show (decide ((0:Int)<=(pl z:Nat)) && decide (((pl z:Nat):Int)<=(n:Int) - 1))=true
      rw [decide_eq_true (by omega),decide_eq_true (by omega)];rfl
    have nz:z∉dn:=fun m=>(List.nodup_append.mp hn).2.2 z m z (List.mem_cons_self ..) rfl
    have e5:inF (.int (pl z)) (dn.map fun y=>D.int (pl y))=false:=by
      unfold inF
      rw [List.any_map,List.any_eq_false]
      intro y hy c
      have e6:((pl y:Nat):Int)=(pl z:Nat):=eq_of_beq (show (((pl y:Nat):Int) == ((pl z:Nat):Int))=true from c)
      exact nz ((hi y (by simp [hy]) z mz (by omega)) ▸ hy)
    have ea:dn++z::r=(dn++[z])++r:=by simp
    rw [ajF e3 e5]
    have:=akl r (dn++[z]) (ea ▸ hn) (ea ▸ hl) (ea ▸ hi)
    rw [List.map_append] at this
    exact this
theorem alO (σ:L2.St) (Q:List (V × V)->Hp->Prop):∀ (cs:List (Str × Int)) (H:Hp) (hq:Q (cs.map fun c=>(V.str c.1,V.int c.2)) H),tPairs (cs.map fun c=>(tC (.str c.1),tC (.int c.2))) σ H Q:=by
  intro cs
  induction cs generalizing Q with
  | nil=>intro H hq;exact hq
  | cons c r ih=>intro H hq;exact ih _ H hq
theorem ajl {K:PySem.W.Frag} {G:Hp}:∀ cs:List (Str × Int),FAll K G (cs.map fun c=>((Sum.inr c.1:Key),V.int c.2)) (cs.map fun c=>((Sum.inr c.1:Key),D.int c.2))
  | []=>.nil
  | c::r=>.cons (.int _) (ajl r)
theorem air {X:Cx} {W:WX} {pos:Pos} {keys:List (Option Expr)} {values:List Expr} {cs:List (Str × Int)} (h:PPs X pos keys values (cs.map fun c=>(tC (.str c.1),tC (.int c.2)))) (hall:keys.all (·.isSome)=true) (hl:keys.length=values.length) (h0:keys≠[]) (h15:keys.length<=15) (c15:cs.length<=15) (hm:mergeD [] (cs.map fun c=>((Sum.inr c.1:Key),D.int c.2))=cs.map fun c=>((Sum.inr c.1:Key),D.int c.2)) :
    DE X W (.Dict keys values pos) (dC (.dk (cs.map fun c=>((Sum.inr c.1:Key),D.int c.2)))):=by
  refine aaD (ajG (pe_disp h hall hl h0 h15)) fun σ H R ⟨G,so,sl,Q,E,rep,q,hq,hx⟩ p n=>?_
  refine alO σ _ cs _ ⟨upd_same,cs.map fun c=>((Sum.inr c.1:Key),V.int c.2),by rw [List.map_map];rfl,by rw [List.length_map];exact c15,p,_,upd_same,trivial,fun od=>?_⟩
  rw [upd_upd,upd_upd]
  have gl:G p=none:=rep.h.ex.free n
  have sl':so.Nt p:=rep.h.there n
  have fa:=FAll.merge (ajl (K:=X.K) (G:=G) cs) .nil
  rw [hm] at fa
  refine hq _ _ (upd G p _) (.d (.dk _)) sl ((Post.refl rep).thenV ⟨Ex.new gl,afi rep.h gl sl',fun b o eb sb=>?_,fun b n1 g sb=>?_,.dk upd_same (fa.mono (Ex.new gl)),fun _ _ z=>(nomatch z),fun _ z=>(nomatch z)⟩) q
  · rw [upd_ne (ne_of_none eb n)];exact eb
  · rw [upd_ne (fun z=>n1 (by rw [z];exact n))];exact g
theorem aiq {X:Cx} {W:WX} {pos:Pos}:DE X W (.Dict [] [] pos) (dC (.dk [])):=by
  refine aaD (ajG pe_dnewK) fun σ H R ⟨G,so,sl,Q,E,rep,q,hq,hx⟩ p n=>⟨p,_,upd_same,trivial,fun od=>?_⟩
  rw [upd_upd]
  have gl:G p=none:=rep.h.ex.free n
  have sl':so.Nt p:=rep.h.there n
  refine hq _ _ (upd G p _) (.d (.dk _)) sl ((Post.refl rep).thenV ⟨Ex.new gl,afi rep.h gl sl',fun b o eb sb=>?_,fun b n1 g sb=>?_,.dk upd_same .nil,fun _ _ z=>(nomatch z),fun _ z=>(nomatch z)⟩) q
  · rw [upd_ne (ne_of_none eb n)];exact eb
  · rw [upd_ne (fun z=>n1 (by rw [z];exact n))];exact g
def intsV (ks:List (Key × V)):Prop:=∀ p∈ks,∃ i:Int,p.2=V.int i
def hitV (ls:List (Key × V)) (p:Key × V):Bool:=match p.2,valV ls p.1 with
  | .int i,some (.int j)=>i == j
  | _,_=>false
theorem aj3 {k:Key} {v:V}:∀ {ls:List (Key × V)},valV ls k=some v->∃ p∈ls,p.2=v
  | [],h=>by cases h
  | q::r,h=>by
    by_cases e:q.1=k
    · rw [valV_pos e] at h
      exact ⟨q,List.mem_cons_self ..,Option.some.inj h⟩
    · rw [valV_neg e] at h
      obtain ⟨p,hp,e2⟩:=aj3 h
      exact ⟨p,List.mem_cons_of_mem _ hp,e2⟩
theorem ank {A:Around} {s:Shared} {ls:List (Key × V)} {vb:List (Key × Value)} (rb:KV ls vb) (il:intsV ls) {ks:List (Key × V)} {va:List (Key × Value)} (ra:KV ks va):intsV ks->PySem.W.KeqHits A s vb va (ks.all (hitV ls)):=by
  unfold KV at ra
  induction ra with
  | nil=>intro _;exact .nil
  | @cons p q ps qs h t ih=>
    intro hp
    obtain ⟨h1,h2⟩:=h
    obtain ⟨i,e⟩:=hp p List.mem_cons_self
    have ih':=ih fun p' hm=>hp p' (List.mem_cons_of_mem _ hm)
    obtain ⟨k,v⟩:=q
    have h1':p.1=k:=h1
    rw [List.all_cons]
    cases z:valV ls p.1 with
    | none=>
      have rr:RelO none (valueAt vb p.1):=by rw [<- z];exact rb.val p.1
      have hn:=RelO.none_of rr
      rw [h1'] at hn
      have e2:hitV ls p=false:=by unfold hitV;rw [e,z]
      rw [e2,Bool.false_and]
      exact .miss hn
    | some y=>
      obtain ⟨p2,m2,e2⟩:=aj3 z
      obtain ⟨j,ej⟩:=il p2 m2
      rw [ej] at e2
      subst e2
      have rr:RelO (some (.int j)) (valueAt vb p.1):=by rw [<- z];exact rb.val p.1
      obtain ⟨w,hw,rw'⟩:=rr.some_of
      obtain ⟨t2,rfl⟩:=(show ∃ t,w=Value.int j t from rw')
      rw [e] at h2
      obtain ⟨t1,e3⟩:=(show ∃ t,v=Value.int i t from h2)
      subst e3
      rw [h1'] at hw
      have e4:hitV ls p=(i == j):=by unfold hitV;rw [e,z]
      rw [e4]
      exact .hit hw (SeqAt.EqAt.int_int i t1 j t2) ih'
def eqV (ks ls:List (Key × V)):Bool:=ks.length == ls.length && ks.all (hitV ls)
def rDI (neg:Bool):R2:=fun x y H Q=>∃ a b ks ls,x=.ref a/\y=.ref b/\Rd H a (.dK ks)/\Rd H b (.dK ls)/\intsV ks/\intsV ls/\Q (.bl (if neg then !eqV ks ls else eqV ks ls)) H
theorem aoD {X:Cx} (hu:X.A.units < cLine):OpR X (compareOp .Eq) (rDI false):=by
  intro pins s σ H x y v u Q I rx ry h
  obtain ⟨a,b,ks,ls,rfl,rfl,ea,eb,ik,il,q⟩:=h
  obtain rfl:v=Value.ref a:=rx
  obtain rfl:u=Value.ref b:=ry
  obtain ⟨_,ya,va,ra,da⟩:=dk_rd I.hok ea
  obtain ⟨_,yb,vb,rb,db⟩:=dk_rd I.hok eb
  exact PySem.W.keq_eq (knd:=mixKind X.prog X.w) (r:=ks.all (hitV ls)) ya yb da db hu (fun _=>ank rb il ra ik) (fin_bl I q (by rw [<- ra.length,<- rb.length];rfl))
def intsD (ks:List (Key × D)):Prop:=∀ p∈ks,∃ i:Int,p.2=D.int i
def hitD (ls:List (Key × D)) (p:Key × D):Bool:=match p.2,valD ls p.1 with
  | .int i,some (.int j)=>i == j
  | _,_=>false
def eqKD (ks ls:List (Key × D)):Bool:=ks.length == ls.length && ks.all (hitD ls)
theorem FAll.ints {K:PySem.W.Frag} {G:Hp}:∀ {vs:List (Key × V)} {kvs:List (Key × D)},FAll K G vs kvs->intsD kvs->intsV vs
  | _,_,.nil,_=>fun p h=>by cases h
  | _,_,.cons d t,h=>fun p hp=>by
    rcases List.mem_cons.mp hp with rfl | hp
    · obtain ⟨i,e⟩:=h _ (List.mem_cons_self ..)
      dsimp only at e
      subst e
      cases d with
      | int=>exact ⟨i,rfl⟩
    · exact FAll.ints t (fun q hq=>h q (List.mem_cons_of_mem _ hq)) p hp
theorem FAll.hits {K:PySem.W.Frag} {G:Hp} {ls:List (Key × V)} {lds:List (Key × D)} (fl:FAll K G ls lds) (il:intsD lds):∀ {vs:List (Key × V)} {kvs:List (Key × D)},FAll K G vs kvs->intsD kvs->vs.all (hitV ls)=kvs.all (hitD lds)
  | _,_,.nil,_=>rfl
  | _,_,.cons (x:=x) d t,h=>by
    rw [List.all_cons,List.all_cons,FAll.hits fl il t (fun q hq=>h q (List.mem_cons_of_mem _ hq))]
    refine congrArg (· && _) ?_
    obtain ⟨i,e⟩:=h _ (List.mem_cons_self ..)
    dsimp only at e
    subst e
    cases d with
    | int=>
      unfold hitV hitD
      dsimp only
      cases z:valD lds x with
      | none=>rw [fl.valN z]
      | some y=>
        obtain ⟨v,e1,e2⟩:=fl.valS z
        have iy:∃ j:Int,y=.int j:=by
          have:∀ l:List (Key × D),intsD l->valD l x=some y->∃ j:Int,y=.int j:=by
            intro l
            induction l with
            | nil=>intro _ h;cases h
            | cons q r ih=>
              intro hi hv
              by_cases e:q.1=x
              · rw [aez e] at hv
                obtain ⟨j,ej⟩:=hi q (List.mem_cons_self ..)
                exact ⟨j,by rw [<- Option.some.inj hv];exact ej⟩
              · rw [aeA e] at hv
                exact ih (fun p hp=>hi p (List.mem_cons_of_mem _ hp)) hv
          exact this lds il z
        obtain ⟨j,rfl⟩:=iy
        cases e2 with
        | int=>rw [e1]
@[irreducible] def eqDR (neg:Bool) (x y:DV) (Q:DV->Prop):Prop:=match x.dkv,y.dkv with
  | some ks,some ls=>intsD ks/\intsD ls/\Q (.d (.bl (if neg then !eqKD ks ls else eqKD ks ls)))
  | _,_=>False
theorem ap7 {n:Bool} {x y:DV} {ks ls:List (Key × D)} {Q:DV->Prop} (h1:x.dkv=some ks) (h2:y.dkv=some ls) (i1:intsD ks) (i2:intsD ls) (q:Q (.d (.bl (if n then !eqKD ks ls else eqKD ks ls)))):eqDR n x y Q:=by
  unfold eqDR
  rw [h1,h2]
  exact ⟨i1,i2,q⟩
theorem amZ {K:PySem.W.Frag} {n:Bool}:OpSem K (rDI n) (eqDR n):=by
  intro G so H x y dx dy Q R h wx wy q hq
  unfold eqDR at q
  split at q
  · rename_i ks ls e1 e2
    obtain ⟨i1,i2,q⟩:=q
    obtain ⟨a,vs,rfl,ra,fa⟩:=VOk.dkr h wx e1
    obtain ⟨b,ws,rfl,rb,fb⟩:=VOk.dkr h wy e2
    refine ⟨a,b,vs,ws,rfl,rfl,ra,rb,fa.ints i1,fb.ints i2,?_⟩
    have e:eqV vs ws=eqKD ks ls:=by
      unfold eqV eqKD
      rw [fa.len,fb.len,fb.hits i2 fa i1]
    rw [e]
    exact hq _ H G _ (.dat h (.bl _)) q
  · exact q.elim
def Ln (L B:Nat) (q:Rat):Prop:=∃ a:Nat,q=mkRat (a:Int) L/\a<=B
theorem Ln.mono {L B C:Nat} {q:Rat} (h:Ln L B q) (le:B<=C):Ln L C q:=let ⟨a,e,l⟩:=h;⟨a,e,Nat.le_trans l le⟩
theorem Ln.add {L B C:Nat} {p q:Rat} (hL:L≠0) (h:Ln L B p) (h2:Ln L C q):Ln L (B + C) (p + q):=by
  obtain ⟨a,rfl,ha⟩:=h
  obtain ⟨b,rfl,hb⟩:=h2
  refine ⟨a + b,?_,by omega⟩
  rw [Rat.mkRat_add_mkRat _ _ hL hL,<- Int.add_mul,Rat.mkRat_mul_right hL]
  rfl
theorem Ln.nb {L B k:Nat} {q:Rat} (hL:L≠0) (h:Ln L B q) (h1:B < 2 ^ k) (h2:L < 2 ^ k):Nb k q:=by
  obtain ⟨a,rfl,ha⟩:=h
  refine ⟨?_,?_⟩
  · rw [Rat.num_mkRat]
    split
    · exact Nat.pow_pos (by decide)
    · refine Nat.lt_of_le_of_lt ?_ h1
      refine Nat.le_trans ?_ ha
      have:((a:Int) / ((L.gcd (a:Int).natAbs:Nat):Int)).natAbs<=a:=by
        rw [Int.natAbs_natCast,<- Int.natCast_ediv,Int.natAbs_natCast]
        exact Nat.div_le_self ..
      exact this
  · rw [Rat.den_mkRat,if_neg hL]
    exact Nat.lt_of_le_of_lt (Nat.div_le_self ..) h2
theorem Ln.nn {L B:Nat} {q:Rat} (h:Ln L B q):0<=q:=by
  obtain ⟨a,rfl,ha⟩:=h
  rw [<- Rat.num_nonneg,Rat.num_mkRat]
  split
  · decide
  · exact Int.ediv_nonneg (by omega) (by omega)
theorem aoJ {L B:Nat}:Ln L B 0:=⟨0,(Rat.zero_mkRat L).symm,Nat.zero_le _⟩
theorem ang {L B:Nat} {p q:Rat} (h:Ln L B p) (h2:Ln L B q):Ln L B (leastQ p q):=by
  unfold leastQ
  split
  · exact h2
  · exact h
theorem akJ {L B n:Nat} {f:Nat->Nat->Rat} (hL:L≠0) (h:∀ i j,i < n->j < n->Ln L B (f i j)):∀ m,m<=n->∀ i j,i < n->j < n->Ln L (B * 2 ^ m) (closeF f m i j)
  | 0,_,i,j,hi,hj=>(h i j hi hj).mono (by omega)
  | m + 1,hm,i,j,hi,hj=>by
    have ih:=akJ hL h m (by omega)
    show Ln L (B * 2 ^ (m + 1)) (stepF (closeF f m) m i j)
    have e:B * 2 ^ (m + 1)=B * 2 ^ m + B * 2 ^ m:=by rw [Nat.pow_succ,Nat.mul_comm (2 ^ m) 2,Nat.mul_left_comm];omega
    rw [e]
    exact ang ((ih i j hi hj).mono (by omega)) ((ih i m hi (by omega)).add hL (ih m j (by omega) hj))
section
variable {g:TDG} {tt:TDT} {te:TD} {vs:List Nat} {Q:DV->DSt->Prop}
theorem aku (h:Nat->D) (R:Nat->D->Prop) (S:DSt) {n:Nat} (hl:n<=szl)
    (step:∀ i,i < n->∀ (M:D->DSt->Prop) (A:DSt->Prop),(∀ y,R i y->M y S)->g (h i) S fun s1=>tt s1 (fun b s2=>Br b (te s2 (fun x s3=>match pubV x with
      | .d y=>M y (wipeD s3 vs)
      | _=>False) fun _ _ _=>False) (A (wipeD s2 vs))) fun _ _ _=>False) (q:∀ f:Nat->D,(∀ i,i < n->R i (f i))->Q (.own (.lst ((List.range n).map f))) S):dLcL g tt te vs Q ((List.range n).map h) [] S:=by
  have go:∀ (k:Nat) (f:Nat->D) (acc:List D) (i:Nat),i + k=n->acc=(List.range i).map f->(∀ j,j < i->R j (f j))->dLcL g tt te vs Q ((List.range' i k).map h) acc S:=by
    intro k
    induction k with
    | zero=>
      intro f acc i h1 h2 h3
      show dLcL g tt te vs Q [] acc S
      rw [lcL_nil,h2]
      have e:i=n:=by omega
      subst e
      exact q f h3
    | succ k ih=>
      intro f acc i h1 h2 h3
      show dLcL g tt te vs Q (h i::(List.range' (i + 1) k).map h) acc S
      rw [afe]
      refine step i (by omega) (fun y s=>acc.length < szl/\dLcL g tt te vs Q ((List.range' (i + 1) k).map h) (acc++[y]) s) (fun s=>dLcL g tt te vs Q ((List.range' (i + 1) k).map h) acc s) (fun y hy=>⟨by rw [h2,List.length_map,List.length_range];omega,?_⟩)
      refine ih (fun j=>if j=i then y else f j) (acc++[y]) (i + 1) (by omega) ?_ (fun j hj=>?_)
      · rw [List.range_succ,List.map_append,h2]
        congr 1
        · exact List.map_congr_left fun j hj=>by
            have:=List.mem_range.mp hj
            show f j=if j=i then y else f j
            rw [if_neg (by omega)]
        · show [y]=[if i=i then y else f i]
          rw [if_pos rfl]
      · show R j (if j=i then y else f j)
        by_cases e:j=i
        · subst e;rw [if_pos rfl];exact hy
        · rw [if_neg e];exact h3 j (by omega)
  have:=go n (fun _=>.non) [] 0 (by omega) rfl (fun j hj=>absurd hj (by omega))
  rw [List.range_eq_range']
  exact this
theorem ajR (h f:Nat->D) (S:DSt) {n:Nat} (hl:n<=szl)
    (step:∀ i,i < n->∀ (M:D->DSt->Prop) (A:DSt->Prop),M (f i) S->g (h i) S fun s1=>tt s1 (fun b s2=>Br b (te s2 (fun x s3=>match pubV x with
      | .d y=>M y (wipeD s3 vs)
      | _=>False) fun _ _ _=>False) (A (wipeD s2 vs))) fun _ _ _=>False) (q:Q (.own (.lst ((List.range n).map f))) S):dLcL g tt te vs Q ((List.range n).map h) [] S:=
  aku h (fun i y=>y=f i) S hl (fun i hi M A hM=>step i hi M A (hM _ rfl)) (fun f' hf=>by
    have e:(List.range n).map f'=(List.range n).map f:=List.map_congr_left fun i hi=>hf i (List.mem_range.mp hi)
    rw [e];exact q)
end
theorem ahH {m:Int} {k B:Nat} (h0:0<=m) (h1:m<=(B:Int)) (c:Nat) (hc:k * c=60):Ln 60 (B * 60) (Rat.divInt m (k:Int)):=by
  have hk:k≠0:=fun e=>by subst e;omega
  have hc0:c≠0:=fun e=>by subst e;omega
  refine ⟨m.toNat * c,?_,?_⟩
  · rw [Rat.divInt_ofNat]
    have e:mkRat m k=mkRat (m * (c:Int)) (k * c):=(Rat.mkRat_mul_right hc0).symm
    rw [e,hc]
    congr 1
    rw [Int.natCast_mul,Int.toNat_of_nonneg h0]
  · have hc60:c<=60:=by
      rw [<- hc];exact Nat.le_mul_of_pos_left _ (Nat.pos_of_ne_zero hk)
    exact Nat.mul_le_mul (by omega) hc60
theorem apW {n:Int} {B:Nat} (h0:0<=n) (h1:n<=(B:Int)):Ln 60 (B * 60) (n:Rat):=by
  have:=ahH (k:=1) h0 h1 60 rfl
  have e:Rat.divInt n ((1:Nat):Int)=(n:Rat):=af4 (n:Rat)
  rw [e] at this;exact this
theorem aoK {m k:Int} {B:Nat} (h0:0<=m) (h1:m<=(B:Int)) (k1:1<=k) (k2:k<=5):Ln 60 (B * 60) (Rat.divInt m k):=by
  have hk:k=1\/k=2\/k=3\/k=4\/k=5:=by omega
  rcases hk with rfl | rfl | rfl | rfl | rfl
  · exact ahH (k:=1) h0 h1 60 rfl
  · exact ahH (k:=2) h0 h1 30 rfl
  · exact ahH (k:=3) h0 h1 20 rfl
  · exact ahH (k:=4) h0 h1 15 rfl
  · exact ahH (k:=5) h0 h1 12 rfl
def setK (i:Nat) (u:TDS) (E:EndsD):DV->DSt->Prop
  | .see _,_=>False
  | y,s1=>u E (s1.set i (some y))
theorem aiL {te:TD} {i:Nat} {u:TDS} {E:EndsD} {sl:DSt} (h:te sl (setK i u E) E.xc):dSeq (dSet te i) u E sl:=by
  have e:(fun (x:DV) (s1:DSt)=>match x with
    | .see _=>False
    | y=>u E (s1.set i (some y)))=setK i u E:=funext fun x=>funext fun s=>by cases x<;>rfl
  show te sl (fun x s1=>match x with
    | .see _=>False
    | y=>u E (s1.set i (some y))) E.xc
  rw [e];exact h
theorem anL {i:Nat} {u:TDS} {E:EndsD} {x:D} {s s':DSt} (e:s.set i (some (.d x))=s') (h:u E s'):setK i u E (.d x) s:=by subst e;exact h
theorem ajy {i:Nat} {u:TDS} {E:EndsD} {x:OO} {s s':DSt} (e:s.set i (some (.own x))=s') (h:u E s'):setK i u E (.own x) s:=by subst e;exact h
theorem g2 {i j:Nat} {x y:D} {s s':DSt} {Q:DSt->Prop} (e:((s.set i (some (.d x))).set j (some (.d y)))=s') (h:Q s'):gConsD (gD i) (gConsD (gD j) gNilD) [x,y] s Q:=by subst e;exact h
structure Vl where
  q:Rat
  bare:Bool
def Vl.d (v:Vl):D:=if v.bare then .int v.q.num else rD v.q
inductive Itm where
  | tx (z:Str) | vl (x:Vl)
inductive Lf where
  | road (ride:Bool) (ly a b:Str) (v:Vl)
  | place (x a:Str) (v w:Vl)
  | same (a b:Str)
  | forget (a:Str)
  | cap (ly:Str) (v:Vl)
  | scale (ly:Str) (v:Vl)
  | turn
  | round (ly:Str)
def Lf.word:Lf->Str
  | .road r _ _ _ _=>if r then "ride" else "road"
  | .place ..=>"place"
  | .same ..=>"same"
  | .forget ..=>"forget"
  | .cap ..=>"cap"
  | .scale ..=>"scale"
  | .turn=>"turn"
  | .round ..=>"round"
def Lf.rest:Lf->List Itm
  | .road _ ly a b v=>[.tx ly,.tx a,.tx b,.vl v]
  | .place x a v w=>[.tx x,.tx a,.vl v,.vl w]
  | .same a b=>[.tx a,.tx b]
  | .forget a=>[.tx a]
  | .cap ly v=>[.tx ly,.vl v]
  | .scale ly v=>[.tx ly,.vl v]
  | .turn=>[]
  | .round ly=>[.tx ly]
structure WOk (z:Str):Prop where
  len:z.length<=30
  ok:okS z
section
variable {g:TDG} {tt:TDT} {te:TD} {vs:List Nat} {Q:DV->DSt->Prop}
end
def Lf.places:Lf->Prop
  | .place ..=>True
  | _=>False
theorem amk (g:Str) (hg:okS g) (hl:g.length<=1):∀ (ws:List Str) (acc:Array Nat),(∀ z∈ws,WOk z)->(∀ c∈acc.toList,c < 0x110000)->
    (∀ c∈(ws.foldl (fun acc p=>acc++g.cps++p.cps) acc).toList,c < 0x110000)/\(ws.foldl (fun acc p=>acc++g.cps++p.cps) acc).size<=acc.size + 31 * ws.length
  | [],acc,_,h=>⟨h,by simp⟩
  | w::ws,acc,hw,h=>by
    have w1:=hw w (List.mem_cons_self ..)
    have ih:=amk g hg hl ws (acc++g.cps++w.cps) (fun z hz=>hw z (List.mem_cons_of_mem _ hz)) (fun c hc=>by
      simp only [Array.toList_append,List.mem_append] at hc
      rcases hc with (hc | hc) | hc
      · exact h c hc
      · exact hg c hc
      · exact w1.ok c hc)
    refine ⟨ih.1,Nat.le_trans ih.2 ?_⟩
    have l1:w.cps.size<=30:=w1.len
    have l2:g.cps.size<=1:=hl
    simp only [Array.size_append,List.length_cons]
    omega
theorem ama {ws:List Str} (h:∀ z∈ws,WOk z):okS (Txt.join " " ws)/\(Txt.join " " ws).length<=31 * ws.length:=by
  cases ws with
  | nil=>
    have e:Txt.join " " []=Str.empty:=rfl
    rw [e]
    exact ⟨fun c hc=>(by cases hc),Nat.le_refl _⟩
  | cons w ws=>
    have w1:=h w (List.mem_cons_self ..)
    have:=amk " " (ad4 " ") (by decide) ws w.cps (fun z hz=>h z (List.mem_cons_of_mem _ hz)) w1.ok
    refine ⟨this.1,Nat.le_trans this.2 ?_⟩
    have l1:w.cps.size<=30:=w1.len
    simp only [List.length_cons]
    omega
theorem apC {ws:List Str} (h:∀ z∈ws,WOk z):(ws.map (·.length)).sum<=30 * ws.length:=by
  induction ws with
  | nil=>exact Nat.le_refl _
  | cons w ws ih=>
    have w1:=(h w (List.mem_cons_self ..)).len
    have:=ih fun z hz=>h z (List.mem_cons_of_mem _ hz)
    rw [List.map_cons,List.sum_cons,List.length_cons]
    omega
theorem alc (ks:List Str):strsD (ks.map D.str)=some ks:=by
  induction ks with
  | nil=>rfl
  | cons k r ih=>show (strsD (r.map D.str)).map (k::·)=_;rw [ih];rfl
theorem al3 {v:DV} {ws:List Str} {Q:DV->Prop} (hv:seqD v=some (ws.map D.str)) (h:∀ z∈ws,WOk z) (hl:ws.length<=10000) (q:Q (.d (.str (Txt.join " " ws)))):joinR (.d (.str " ")) v Q:=
  anW hv (alc ws) (by
    have:=apC h
    have l1:((" ":String):Str).length=1:=by decide
    rw [l1];omega) q
theorem aj9:∀ {ws:List Str},(∀ z∈ws,WOk z)->Sms 20 0 (304 * ws.length) (ws.map .str)
  | [],_=>acl
  | z::r,h=>by
    have hz:=h z (List.mem_cons_self ..)
    have:=aao (ae6 (b:=20) (m:=30) hz.ok hz.len) (aj9 (ws:=r) fun y hy=>h y (List.mem_cons_of_mem _ hy))
    exact this.mono (by omega) (by rw [List.length_cons];omega)
theorem aoh {ws:List Str} (h:∀ z∈ws,WOk z):∃ p,(D.lst (ws.map .str)).py=some p/\SeqAt.shaped p=true:=(adD (aj9 h)).sh
end DL
namespace DL
end DL
namespace DL
open PySem PySem.Spec PyProof.Rows L2
section
variable {X:Cx} {W:WX} {o e:Expr} {to te:TD} {apos pos:Pos}
end
section
variable {K:PySem.W.Frag}
end
abbrev tl (x:Str):List Nat:=TL.tl x
structure FnV (P:Program) (w:World) (K:PySem.W.Frag) (mg:Str->Option Value) (base:Heap) (k:Nat) (f:Addr) (sp:SpD):Prop where
  run:∀ (A:Around) (outer:List Env) (s:Shared) (H:Hp) (us:List Value) (vs:List V) (Q:VK) (E:XK),Room k A->A.guards=some []->Env0 P w K mg base A outer s H->Vals vs us->upSp K sp vs H Q E->
    codeAny (model P w) A (.call (.ref f) ⟨us,[]⟩) (CR (L2N.CX P w) outer P w H s Q E) s
theorem FnV.mono {P:Program} {w:World} {K:PySem.W.Frag} {mg:Str->Option Value} {base:Heap} {j k:Nat} {f:Addr} {sp:SpD} (F:FnV P w K mg base j f sp) (h:j<=k):FnV P w K mg base k f sp:=
  ⟨fun A outer s H us vs Q E hr=>F.run A outer s H us vs Q E (hr.mono h)⟩
section
variable {X:Cx} {W:WX} {k:Nat} {f C:Addr} {sp:SpD} {x m:Str} {p pos apos:Pos} {e o:Expr} {es:List Expr} {ta:TDA} {to:TD} {pl:Sem Bool}
end
section
variable {n:Nat} {sp:SpD} {ta:TDA}
end
end DL
namespace DL
open PySem PySem.Spec PyProof.Rows L2 PySem.W
end DL
namespace DL
open PySem PySem.Spec PyProof.Rows L2
section
variable {X:Cx} {W:WX} {o e:Expr} {to te:TD} {apos pos:Pos}
end
end DL
set_option maxHeartbeats 4000000
namespace DL
open PySem PySem.Spec PyProof.Rows L2
section
variable {X:Cx} {W:WX} {elt tg iter:Expr} {ifs:List Expr} {scope:Scope} {own:List (Str × Nat)} {pos spos:Pos} {ti:TDI} {g:TDG} {tt:TDT} {te:TD} {ix:List Nat}
end
section
variable {K:PySem.W.Frag} {G G':Hp} {so:So} {σ:L2.St} {H H':Hp} {sl sl':DSt} {v:V} {dv:DV}
end
section
variable {X:Cx} {W:WX} {e a b c:Expr} {ta tb tc te:TD} {pos apos:Pos}
end
end DL
namespace DL
open PySem PySem.Spec PyProof.Rows L2 PySem.W PySem.Calls
section
variable {prog:Program} {w:World} {A:Around} {E:Value->Shared->Prop} {s:Shared} {a kS:Addr} {b:Bool} {vs:List Value} {keys:Array Value} {e e1:Nat} {P:PySem.Fin->Shared->Prop}
end
theorem PostH.trans {K:PySem.W.Frag} {G G1 G2:Hp} {so:So} {H H1 H2:Hp} (a:PostH K G so H H1 G1) (b:PostH K G1 so H1 H2 G2):PostH K G so H H2 G2:=
  ⟨a.ex.trans b.ex,b.hrep,fun c o e s=>b.keep c o (a.keep c o e s) s,fun c n g s=>b.frm c (by rw [al9 a.keep n s.q];exact n) (a.frm c n g s) s⟩
theorem PostH.refl {K:PySem.W.Frag} {G:Hp} {so:So} {H:Hp} (h:HRep K G so H):PostH K G so H H G:=⟨Ex.refl G,h,fun _ _ e _=>e,fun _ _ g _=>g⟩
section
variable {X:Cx} {σ:L2.St} {A:Around} {pins:List (Addr × Obj)} {G H:Hp} {so:So} {s:Shared} {f:Value} {Gc:Hp->Prop} {kf:D->(PyData->Prop)->Prop} {a kS:Addr} {b:Bool} {us:List Value} {vs:List V} {ds:List D} {kz:List PyData} {E:Value->Shared->Prop} {P:PySem.Fin->Shared->Prop} {e1:Nat}
end
section
variable {X:Cx} {W:WX} {k:Nat} {f:Addr} {fd:FuncData} {ps:List Str} {sp:SpD}
end
section
variable {X:Cx} {W:WX} {e fe:Expr} {te:TD} {p kpos pos:Pos} {q:Addr} {kf:D->(PyData->Prop)->Prop}
end
def LamHO (q:Str) (params:Arguments) (body:Expr) (scope:Scope) (f c':Addr):HO:=.ext fun h=>∃ (doc pm ctv:Value),h.get? f=some (kdv_obj "<lambda>" q params (.expr body) scope [] .none doc pm c' ctv)
def LamG (q:Str) (params:Arguments) (body:Expr) (scope:Scope) (f:Addr) (G:Hp):Prop:=∃ c',G f=some (LamHO q params body scope f c')/\G c'=some (LamX.CodeO c' q)
theorem LamG.mono {q:Str} {params:Arguments} {body:Expr} {scope:Scope} {f:Addr} {G G1:Hp} (e:Ex G G1) (h:LamG q params body scope f G):LamG q params body scope f G1:=by
  obtain ⟨c',h1,h2⟩:=h
  exact ⟨c',e _ _ h1,e _ _ h2⟩
section
variable {X:Cx} {k:Nat} {q x:Str} {params:Arguments} {body:Expr} {scope:Scope} {te:TD}
end
section
variable {X:Cx} {pins:List (Addr × Obj)} {σ:L2.St} {H:Hp} {s:Shared} {c P:Addr} {ps:Array Value} {params:Arguments} {body:Expr} {scope:Scope} {pos:Pos} {Q E:Value->Shared->Prop}
end
section
variable {K:PySem.W.Frag} {G G1:Hp} {so:So} {σ:L2.St} {H H1 H2:Hp} {sl s1:DSt}
end
section
variable {X:Cx} {W:WX} {e:Expr} {te tl:TD} {p kpos pos lpos:Pos} {c:Addr} {k:Nat} {x:Str} {params:Arguments} {body:Expr} {scope:Scope}
end
end DL
namespace DL
open PySem PySem.Spec PyProof.Rows L2
section
variable {X:Cx} {W:WX} {a b:Expr} {ta tb:TD} {pos:Pos}
end
section
variable {β γ:Type}
end
section
variable {M:Model} {prog:Program} {w:World} {A:Around} {E:Value->Shared->Prop} {s:Shared} {K:PySem.W.Frag} {x C f:Addr} {ox:Obj} {od:Option Obj} {b:Value} {nm:String} {T:String}
end
section
variable {X:Cx} {W:WX} {k:Nat} {f C:Addr} {fd:FuncData} {ps:List Str} {sp:SpD} {a b:Expr} {ta tb:TD} {pos:Pos}
end
section
variable {K:PySem.W.Frag} {G H:Hp}
end
section
variable {X:Cx}
end
section
variable {prog:Program} {w:World} {κ:Type} [DecidableEq κ] {knd:HeapKind prog w κ} {A:Around} {E:Value->Shared->Prop} {s:Shared}
end
section
variable {X:Cx} {pins:List (Addr × Obj)} {σ:L2.St} {H:Hp} {s:Shared}
end
end DL
namespace DL
open PySem PySem.Spec PyProof.Rows L2 PySem.W
end DL
namespace DL
open PySem PySem.Spec PyProof.Rows L2
section
variable {prog:Program} {w:World} {A:Around} {E:Value->Shared->Prop} {s:Shared} {K:PySem.W.Frag} {x y C f:Addr} {ox oy:Obj} {od od':Option Obj} {nm:String}
end
section
variable {X:Cx} {W:WX} {k:Nat} {f C:Addr} {fd:FuncData} {ps:List Str} {sp:SpD} {a b:Expr} {ta tb:TD} {pos:Pos}
end
section
open PySem.W PySem.Calls PyProof.V DT
variable {prog:Program} {w:World} {A:Around} {E:Value->Shared->Prop} {s:Shared} {v d:Addr} {es:Array DictEntry} {ep:Nat}
end
section
variable {X:Cx}
end
section
variable {X:Cx} {W:WX}
end
section
variable {g:TDG} {tt:TDT} {te:TD} {vs:List Nat} {Q:DV->DSt->Prop}
end
section
variable {K:PySem.W.Frag} {X:Cx}
end
section
variable {α:Type} [DecidableEq α] (U:α->α->Bool)
def kStep (C:α->Bool) (acc:List α) (f:α):List α:=if decide (f∈acc)=false/\C f=true then acc++[f] else acc
abbrev kept (C:α->Bool) (P:List α):List α:=P.foldl (kStep C) []
variable {U}
end
section
variable {X:Cx} {W:WX} {k:Nat} {f C:Addr} {sp:SpD} {m:Str} {pos apos:Pos} {o e:Expr} {es:List Expr} {ta:TDA} {to:TD} {pl:Sem Bool}
end
section
variable {g:TDG} {tt:TDT} {tk tv:TD} {vs:List Nat} {Q:DV->DSt->Prop}
end
section
variable {X:Cx} {W:WX} {kx vx tg iter:Expr} {ifs:List Expr} {scope:Scope} {own:List (Str × Nat)} {pos:Pos} {ti:TDI} {g:TDG} {tt:TDT} {tk tv:TD} {ix:List Nat}
end
section
variable {X:Cx} {kx vx tg iter:Expr} {ifs:List Expr} {scope:Scope} {own:List (Str × Nat)} {pos spos py:Pos} {wi:TI} {g:TG} {tt:TT} {tk tv:TE} {i:Nat} {y:Str}
end
section
variable {X:Cx} {W:WX} {kx vx tg iter:Expr} {ifs:List Expr} {scope:Scope} {own:List (Str × Nat)} {pos spos:Pos} {ti:TDI} {g:TDG} {tt:TDT} {tk tv:TD} {ix:List Nat}
end
section
variable {X:Cx} {W:WX} {a b:Expr} {ta tb:TD} {pos:Pos}
end
section
variable {P:Program} {w:World} {A:Around} {E:Value->Shared->Prop} {s:Shared}
abbrev mh (P:Program) (w:World) (k:List Key):Int:=tupleKeyHash (mixKind P w) k
def rowsM (P:Program) (w:World) (L:List (Addr × List Key)):List (Int × Value):=L.map fun p=>(mh P w p.2,Value.ref p.1)
def hsM (P:Program) (w:World) (L:List (Addr × List Key)):List Int:=L.map fun p=>mh P w p.2
structure SetM (P:Program) (w:World) (h:Heap) (a:Addr) (L:List (Addr × List Key)) (es:Array (Int × Value)) (ep:Nat) (t:SetTable):Prop where
  ob:∃ o,h.get? a=some o/\o.ExactSet/\o.data=.set es ep t
  rows:es.toList=rowsM P w L
  tab:L2.TabOk t (hsM P w L)
  nd:(L.map (·.2)).Nodup
  led:w.params.followText "set-order"=true\/t.led=true
  room:L.length * 5 < t.mask * 3
  few:L.length < 64
theorem alw {es:Array (Int × Value)} {L:List (Addr × List Key)} (h:es.toList=rowsM P w L):es.size=L.length:=by
  have z:=congrArg List.length h
  rw [Array.length_toList] at z
  rw [z,rowsM,List.length_map]
variable {a:Addr} {L:List (Addr × List Key)} {es:Array (Int × Value)} {ep:Nat} {t:SetTable} {h:Heap}
theorem SetM.size (R:SetM P w h a L es ep t):es.size=L.length:=alw R.rows
theorem SetM.keep {h':Heap} (R:SetM P w h a L es ep t) (k:∀ o,h.get? a=some o->h'.get? a=some o):SetM P w h' a L es ep t:=by
  obtain ⟨o,ho,r⟩:=R.ob
  exact ⟨⟨o,k o ho,r⟩,R.rows,R.tab,R.nd,R.led,R.room,R.few⟩
end
section
variable {X:Cx}
end
section
variable {X:Cx} {W:WX} {e:Expr} {te:TD} {tl th:TDO} {pos p2:Pos} {lo hi:Option Expr} {K:PySem.W.Frag}
end
section
variable {g:TDG} {tt:TDT} {te:TD} {vs:List Nat} {F:List (List Key)->DSt->Prop}
end
section
variable {X:Cx} {W:WX} {elt tg iter:Expr} {ifs:List Expr} {scope:Scope} {own:List (Str × Nat)} {pos p lpos:Pos} {ti:TDI} {g:TDG} {tt:TDT} {te:TD} {ix:List Nat}
end
section
variable {g:TDG} {tt:TDT} {te:TD} {vs:List Nat} {F:List (List Key)->DSt->Prop}
end
section
variable {prog:Program} {w:World} {A:Around} {R:Result->Shared->Prop} {s:Shared} {elt t i:Expr} {ifs:List Expr} {gens:List Comprehension} {scope:Scope} {pos:Pos} {it acc:Value} {env:Env} {d:Nat}
end
def Ends (Y:Cx) (pins:List (Addr × Obj)) (σ:L2.St) (vs:List Nat) (Nx:Hp->Prop) (F:Shared->Prop):Prop:=∀ (σ':L2.St) (s':Shared) (H':Hp),Inv Y pins σ' H' s'->σ'.length=σ.length->(∀ (j:Nat) v,(wipe σ vs)[j]?=some (some v)->σ'[j]?=some (some v))->Nx H'->F s'
section
variable {Y:Cx} {elt:Expr} {gens:List Comprehension} {scope:Scope} {pos:Pos} {acc:Value}
end
section
variable {X:Cx}
end
section
variable {K:PySem.W.Frag} {G H:Hp} {so:So} {σ:L2.St} {sl:DSt}
end
section
variable {X:Cx} {tg e:Expr} {te:TD}
end
abbrev DBody:=(List D->DSt->Prop)->List D->DSt->Prop
section
variable {body:DBody} {g:TDG} {tt:TDT} {vs:List Nat} {F:List D->DSt->Prop} {acc:List D} {sl:DSt}
end
structure ClX where
  tg:Expr
  iter:Expr
  ifs:List Expr
  ti:TDI
  g':TG
  g:TDG
  tt:TDT
  vs:List Nat
  ix:List Nat
structure CSt (K:PySem.W.Frag) (C:Addr) (n:Nat) (G:Hp) (so:So) (σ:L2.St) (H:Hp) (sl:DSt) (us:List V) (acc:List D):Prop where
  rep:Rep K G so σ H sl
  hC:H C=some (.lst us)
  gC:G C=none
  nt:so.Nt C
  no:¬ Own sl σ C
  al:DAll K G us acc
  nb:∀ (j:Nat) (o:OO),sl[j]?=some (some (.bor o))->σ[j]?=some (some (.ref C))->False
  ln:σ.length=n
structure CR (C:Addr) (so:So) (G:Hp) (σ:L2.St) (H:Hp) (sl:DSt) (G':Hp) (σ':L2.St) (H':Hp) (sl':DSt):Prop where
  ex:Ex G G'
  keep:∀ a o,a≠C->H a=some o->so.Nt a->H' a=some o
  frm:∀ a,H a≠none->G a=none->so.Nt a->¬ Own sl σ a->G' a=none
  sub:∀ a,Own sl' σ' a->Own sl σ a
  bs:∀ (j:Nat) (o:OO),sl'[j]?=some (some (.bor o))->∃ o',sl[j]?=some (some (.bor o'))
section
variable {K:PySem.W.Frag} {C:Addr} {n:Nat} {G G' G2:Hp} {so:So} {σ σ' σ2:L2.St} {H H' H2:Hp} {sl sl' sl2:DSt} {us:List V} {acc:List D}
theorem CR.refl:CR C so G σ H sl G σ H sl:=⟨Ex.refl _,fun _ _ _ e _=>e,fun _ _ g _ _=>g,fun _ z=>z,fun _ o e=>⟨o,e⟩⟩
theorem CR.trans (hC:G' C=none->G2 C=none) (a:CR C so G σ H sl G' σ' H' sl') (b:CR C so G' σ' H' sl' G2 σ2 H2 sl2):CR C so G σ H sl G2 σ2 H2 sl2 where
  ex:=a.ex.trans b.ex
  keep:=fun x o nx e s=>b.keep x o nx (a.keep x o nx e s) s
  frm:=fun x n1 g1 s w=>by
    have g':=a.frm x n1 g1 s w
    by_cases z:x=C
    · subst z;exact hC g'
    · obtain ⟨o,e⟩:=Option.ne_none_iff_exists'.mp n1
      exact b.frm x (by rw [a.keep x o z e s];simp) g' s fun q=>w (a.sub x q)
  sub:=fun x z=>a.sub x (b.sub x z)
  bs:=fun j o e=>let ⟨o1,e1⟩:=b.bs j o e;a.bs j o1 e1
theorem CR.wipe (vs:List Nat):CR C so G σ H sl G (L2.wipe σ vs) H (wipeD sl vs):=⟨Ex.refl _,fun _ _ _ e _=>e,fun _ _ g _ _=>g,fun _ z=>aba z,fun _ o e=>⟨o,(aal e).1⟩⟩
theorem CSt.wipe (c:CSt K C n G so σ H sl us acc) (vs:List Nat):CSt K C n G so (L2.wipe σ vs) H (wipeD sl vs) us acc where
  rep:=c.rep.wipe vs
  hC:=c.hC
  gC:=c.gC
  nt:=c.nt
  no:=fun z=>c.no (aba z)
  al:=c.al
  nb:=fun j o e1 e2=>c.nb j o (aal e1).1 (wipe_some e2).1
  ln:=(wipe_length σ vs).trans c.ln
end
section
variable {K:PySem.W.Frag} {n:Nat} {C:Addr}
end
section
variable {X:Cx} {W:WX} {elt tg iter:Expr} {ifs:List Expr} {scope:Scope} {own:List (Str × Nat)} {pos:Pos} {ti:TDI} {g':TG} {g:TDG} {tt:TDT} {te:TD} {ix:List Nat} {r:List ClX}
end
section
variable {X:Cx} {W:WX} {elt tg iter tg1 iter1 tg2 iter2:Expr} {ifs ifs1 ifs2:List Expr} {scope:Scope} {own:List (Str × Nat)} {pos:Pos} {ti ti1 ti2:TDI} {g' g1' g2':TG} {g g1 g2:TDG} {tt tt1 tt2:TDT} {te:TD} {ix ix1 ix2:List Nat}
end
section
variable {X:Cx} {W:WX} {a b:Expr} {ta tb:TD} {i j:Nat} {x y:Str} {pos:Pos}
end
section
variable {prog:Program} {w:World} {A:Around} {R:Result->Shared->Prop} {s:Shared} {elt t i:Expr} {ifs:List Expr} {gens:List Comprehension} {scope:Scope} {pos:Pos} {it acc:Value} {env:Env} {d:Nat}
end
section
variable {Y:Cx} {elt:Expr} {gens:List Comprehension} {scope:Scope} {pos:Pos} {acc:Value}
end
section
variable {X:Cx}
end
end DL
namespace DL
open PySem PySem.Spec PyProof.Rows L2 PySem.W
section
variable {X:Cx}
end
end DL
namespace DL
open PySem PySem.Spec PyProof.Rows L2
abbrev SG:=Hp->HO->List D->Prop
structure CG (S:SG) (K:PySem.W.Frag) (C:Addr) (n:Nat) (G:Hp) (so:So) (σ:L2.St) (H:Hp) (sl:DSt) (acc:List D):Prop where
  rep:Rep K G so σ H sl
  ho:∃ o,H C=some o/\S G o acc
  gC:G C=none
  nt:so.Nt C
  no:¬ Own sl σ C
  nb:∀ (j:Nat) (o:OO),sl[j]?=some (some (.bor o))->σ[j]?=some (some (.ref C))->False
  ln:σ.length=n
section
variable {S:SG} {K:PySem.W.Frag} {C:Addr} {n:Nat} {G G' G2:Hp} {so:So} {σ σ' σ2:L2.St} {H H' H2:Hp} {sl sl' sl2:DSt} {us:List V} {acc:List D}
theorem CG.wipe (c:CG S K C n G so σ H sl acc) (vs:List Nat):CG S K C n G so (L2.wipe σ vs) H (wipeD sl vs) acc where
  rep:=c.rep.wipe vs
  ho:=c.ho
  gC:=c.gC
  nt:=c.nt
  no:=fun z=>c.no (aba z)
  nb:=fun j o e1 e2=>c.nb j o (aal e1).1 (wipe_some e2).1
  ln:=(wipe_length σ vs).trans c.ln
end
section
variable {K:PySem.W.Frag} {n:Nat} {C:Addr}
end
section
variable {X:Cx} {W:WX} {elt tg iter:Expr} {ifs:List Expr} {scope:Scope} {own:List (Str × Nat)} {p pos cpos:Pos} {ti:TDI} {g':TG} {g:TDG} {tt:TDT} {te:TD} {ix:List Nat} {r:List ClX}
end
end DL
namespace DL
open PySem PySem.Spec PySem.Calls PyProof.Rows L2 PySem.W
section
variable {prog:Program} {w:World} {A:Around} {E:Value->Shared->Prop} {s:Shared}
end
section
variable {X:Cx} {e1 e2:Expr} {p2 pos:Pos} {k:Nat} {t:TGs}
end
section
variable {X:Cx} {W:WX} {e:Expr} {te:TD} {i j:Nat} {x y:Str} {pos:Pos}
end
end DL
namespace DL
open PySem PySem.Spec PyProof.Rows L2
def ZSt (S z TI TO i1 i2 l1 l2:Addr) (xs ys:Array Value) (i:Nat) (h:Heap):Prop:=
  IsPair h TI (.ref i1) (.ref i2)/\h.IsListIter i1 l1 i/\h.IsListIter i2 l2 i/\h.IsList l1 xs/\h.IsList l2 ys/\
    ((IsZip h z TI TO .none/\∃ a b,IsPair h TO a b)\/∃ T f oT,IsZipHeld h z TI TO T f/\h.get? T=some oT/\T≠z/\T≠i1/\T≠i2/\T≠S)
theorem ZSt.keep {S z TI TO i1 i2 l1 l2:Addr} {xs ys:Array Value} {i:Nat} {h h':Heap} (st:ZSt S z TI TO i1 i2 l1 l2 xs ys i h) (off:S∉[z,TI,TO,i1,i2,l1,l2]) (k:∀ b o,b≠S->h.get? b=some o->h'.get? b=some o):ZSt S z TI TO i1 i2 l1 l2 xs ys i h':=by
  simp only [List.mem_cons,List.not_mem_nil,or_false,not_or] at off
  obtain ⟨dz,dTI,dTO,di1,di2,dl1,dl2⟩:=off
  obtain ⟨hTI,h1,h2,hl1,hl2,hz⟩:=st
  refine ⟨k _ _ (Ne.symm dTI) hTI,h1.at fun o e=>k _ o (Ne.symm di1) e,h2.at fun o e=>k _ o (Ne.symm di2) e,hl1.at fun o e=>k _ o (Ne.symm dl1) e,hl2.at fun o e=>k _ o (Ne.symm dl2) e,?_⟩
  rcases hz with ⟨hz,a,b,hTO⟩ | ⟨T,f,oT,hz,hT,r1,r2,r3,r4⟩
  · exact .inl ⟨k _ _ (Ne.symm dz) hz,a,b,k _ _ (Ne.symm dTO) hTO⟩
  · exact .inr ⟨T,f,oT,k _ _ (Ne.symm dz) hz,k _ _ r4 hT,r1,r2,r3,r4⟩
section
variable {prog:Program} {w:World} {A:Around} {E:Value->Shared->Prop} {S z TI TO i1 i2 l1 l2:Addr} {xs ys:Array Value} {R:Result->Shared->Prop}
end
section
variable {X:Cx} {pins:List (Addr × Obj)} {σ:L2.St} {H:Hp} {s:Shared}
end
section
variable {X:Cx} {W:WX}
end
section
variable {X:Cx} {W:WX} {o key value:Expr} {tk te:TD} {pos pos':Pos} {i:Nat}
end
section
variable {X:Cx} {W:WX} {elt tg iter tg1 iter1:Expr} {ifs ifs1:List Expr} {scope:Scope} {own:List (Str × Nat)} {p pos cpos:Pos} {ti ti1:TDI} {g' g1':TG} {g g1:TDG} {tt tt1:TDT} {te:TD} {ix ix1:List Nat}
end
section
variable {X:Cx} {W:WX} {pos:Pos} {i j l:Nat} {x y z:Str} {a b c:Expr} {ta:TDA}
end
section
variable {X:Cx} {x:Str} {kvs:List (Str × Str)}
end
section
variable {prog:Program} {w:World} {K:Type} [DecidableEq K] {knd:KeyKind prog w K} {A:Around} {E:Value->Shared->Prop} {s:Shared}
end
section
variable {K:PySem.W.Frag} {G G1:Hp} {so:So} {σ:L2.St} {H H1:Hp} {sl s1:DSt} {p:Addr} {o:HO}
end
section
variable {X:Cx} {W:WX} {kx vx tg iter:Expr} {ifs:List Expr} {scope:Scope} {own:List (Str × Nat)} {pos:Pos} {ti:TDI} {g:TDG} {tt:TDT} {tk tv:TD} {ix:List Nat}
end
section
variable {X:Cx} {pins:List (Addr × Obj)} {σ:L2.St} {H:Hp} {s:Shared}
end
end DL
set_option maxHeartbeats 2000000
namespace DL
open PySem PySem.Spec PyProof.Rows L2
end DL
set_option maxHeartbeats 4000000
namespace DL
open PySem PySem.Spec PyProof.Rows L2
section
variable {X:Cx} {W:WX} {e:Expr} {te:TD} {i j:Nat} {x y:Str} {pos:Pos}
end
abbrev SpM:=List DV->List (Str × D)->(DV->List (Str × D)->Prop)->(Value->List (Str × D)->List (Str × D)->Prop)->Prop
def noMu:DSt->Bool
  | []=>true
  | some (.mu _ _ _)::_=>false
  | some (.gh _ _)::_=>false
  | _::r=>noMu r
theorem aic:∀ {sl:DSt} {j:Nat} {y D:Addr} {gs:List (Str × DL.D)},noMu sl=true->sl[j]?≠some (some (.mu y D gs))
  | [],j,_,_,_,_,e=>by simp at e
  | z::r,0,y,D,gs,h,e=>by
    simp at e;subst e;cases h
  | z::r,j + 1,y,D,gs,h,e=>by
    refine aic (sl:=r) ?_ (by simpa using e)
    unfold noMu at h
    split at h
    · rename_i q;cases q
    · cases h
    · cases h
    · rename_i q;cases q;exact h
theorem agH:∀ {sl:DSt} {j:Nat} {y:Addr} {g:GR},noMu sl=true->sl[j]?≠some (some (.gh y g))
  | [],j,_,_,_,e=>by simp at e
  | z::r,0,y,g,h,e=>by
    simp at e;subst e;cases h
  | z::r,j + 1,y,g,h,e=>by
    refine agH (sl:=r) ?_ (by simpa using e)
    unfold noMu at h
    split at h
    · rename_i q;cases q
    · cases h
    · cases h
    · rename_i q;cases q;exact h
section
variable {K:PySem.W.Frag} {G G' H H':Hp} {so:So} {x C:Addr} {v:V} {dv:DV} {fs fs':List (Str × D)}
def MuOk (K:PySem.W.Frag) (G H:Hp) (x C:Addr) (fs:List (Str × D)):Prop:=∃ dx vs,H x=some (.ins C dx vs)/\FAll K G vs fs
abbrev soM (so:So) (x C:Addr):So:=(x,Kd.mt C)::so.drop
structure PostMH (K:PySem.W.Frag) (G:Hp) (so:So) (H:Hp) (x C:Addr) (H' G':Hp) (fs':List (Str × D)):Prop where
  ex:Ex G G'
  hrep:HRep K G' (soM so x C) H'
  keep:∀ a o,H a=some o->so.drop.Nt a->a≠x->H' a=some o
  frm:∀ a,H a≠none->G a=none->so.drop.Nt a->a≠x->G' a=none
  self:MuOk K G' H' x C fs'
structure PostM (K:PySem.W.Frag) (G:Hp) (so:So) (H:Hp) (x C:Addr) (v:V) (H' G':Hp) (dv:DV) (fs':List (Str × D)):Prop extends PostMH K G so H x C H' G' fs' where
  val:VOk K G' (soM so x C) H' v dv
  new:∀ a o,dv=.own o->v=.ref a->H a=none
  nob:∀ o,dv≠.bor o
  ns:∀ o,dv≠.see o
def upM (K:PySem.W.Frag) (C:Addr) (sp:SpM):Sp:=fun vs H Q E=>∃ G so x vs' fs args QD ED,vs=.ref x::vs'/\HRep K G (soM so x C) H/\so.drop.Nt x/\MuOk K G H x C fs/\VsOk K G (soM so x C) H vs' args/\sp args fs QD ED/\
  (∀ v H' G' dv fs',PostM K G so H x C v H' G' dv fs'->QD dv fs'->Q v H')/\(∀ cls d H' G' efs fs',PostMH K G so H x C H' G' fs'->XdOk K G' H' d efs->ED cls efs fs'->E cls d H')
end
section
variable {K:PySem.W.Frag} {W:WX} {G G' H H':Hp} {so:So} {σ:L2.St} {sl:DSt} {x C:Addr} {v:V} {dv:DV} {fs fs':List (Str × D)} {i:Nat}
end
section
variable {X:Cx} {W:WX} {k n:Nat} {f C:Addr} {fd:FuncData} {ps ks:List Str} {sp:SpM} {sel:List Sel} {m nm:Str} {p pos apos kpos:Pos} {o e:Expr} {es:List Expr} {ta:TDA} {te:TD} {pl:Sem Bool} {i:Nat}
end
section
variable {X:Cx} {W:WX} {k n:Nat} {f C:Addr} {fd:FuncData} {ps ks:List Str} {sp:SpI} {sel:List Sel} {x nm:Str} {p pos kpos:Pos} {e:Expr} {es:List Expr} {kws:List Keyword} {ta tk tk':TDA} {te:TD}
end
section
variable {X:Cx} {W:WX} {k n:Nat} {f C:Addr} {fd:FuncData} {ps ks:List Str} {sp:SpM} {sel:List Sel} {m nm:Str} {p pos apos kpos:Pos} {o e:Expr} {es:List Expr} {ta:TDA} {te:TD} {pl:Sem Bool} {i:Nat}
end
section
variable {X:Cx} {W:WX} {x:Str} {c:Value} {body suite:List Stmt} {b0:Stmt} {np pos pos':Pos} {t u:TDS}
end
section
variable {X:Cx} {W:WX} {elt tg iter:Expr} {ifs:List Expr} {scope:Scope} {own:List (Str × Nat)} {pos spos:Pos} {ti:TDI} {g:TDG} {tt:TDT} {te:TD} {ix:List Nat}
end
section
variable {X:Cx} {W:WX} {k n:Nat} {f C r:Addr} {fd:FuncData} {ps ks:List Str} {sp:SpD} {sel:List Sel} {m nm:Str} {p pos apos kpos:Pos} {o e:Expr} {es:List Expr} {kws:List Keyword} {ta tk':TDA} {pl:Sem Bool}
end
end DL
set_option maxHeartbeats 2000000
namespace DL
open PySem PySem.Spec PyProof.Rows L2
section
variable {X:Cx} {pins:List (Addr × Obj)} {σ:L2.St} {H HZ:Hp} {s s1:Shared} {params:Arguments} {xs:List Str} {vs:List Nat}
end
section
variable {X:Cx} {W:WX} {K:PySem.W.Frag} {cs:List Value} {x a:Str} {g c:Addr} {fdg:FuncData} {qg:Str} {pg:Arguments} {bg:List Stmt} {sg:Scope} {Ng xs:List Str} {params:Arguments} {body:Expr} {scope:Scope} {te:TD} {k:Nat} {p lpos pos:Pos} {vs:List Nat}
end
section
variable {X:Cx} {W:WX} {k n:Nat} {f C r:Addr} {fd:FuncData} {ps ks:List Str} {sp:SpD} {sel:List Sel} {m nm:Str} {p pos apos kpos:Pos} {o e:Expr} {es:List Expr} {kws:List Keyword} {ta tk':TDA} {pl:Sem Bool}
end
end DL
set_option maxHeartbeats 4000000
namespace DL
open PySem PySem.Spec PyProof.Rows L2
section
variable {X:Cx} {W:WX} {g0:Stmt} {gs:List Stmt} {tv tu:TS} {pins:List (Addr × Obj)} {D:L2.Ends}
end
section
variable {K:PySem.W.Frag} {W:WX} {G G1 H H1:Hp} {so:So} {σ σ1:L2.St} {sl s1:DSt} {d:Option Addr} {fs:List (Str × D)}
end
section
variable {X:Cx} {W:WX} {body gs:List Stmt} {g0:Stmt} {pos:Pos} {t u:TDS}
end
section
variable {K:PySem.W.Frag} {W:WX} {G G' H H':Hp} {so:So} {σ σ':L2.St} {sl sl':DSt} {x C:Addr} {fs:List (Str × D)} {i:Nat}
end
section
variable {X:Cx} {W:WX} {rest:List Stmt} {u:TDS} {C:Addr} {i:Nat}
end
structure FnVM (P:Program) (w:World) (K:PySem.W.Frag) (mg:Str->Option Value) (base:Heap) (k:Nat) (f C:Addr) (sp:SpM):Prop where
  run:∀ (A:Around) (outer:List Env) (s:Shared) (H:Hp) (us:List Value) (vs:List V) (Q:VK) (E:XK),Room k A->A.guards=some []->Env0 P w K mg base A outer s H->Vals vs us->upM K C sp vs H Q E->
    codeAny (model P w) A (.call (.ref f) ⟨us,[]⟩) (L2.CR (L2N.CX P w) outer P w H s Q E) s
theorem FnVM.mono {P:Program} {w:World} {K:PySem.W.Frag} {mg:Str->Option Value} {base:Heap} {j k:Nat} {f C:Addr} {sp:SpM} (F:FnVM P w K mg base j f C sp) (h:j<=k):FnVM P w K mg base k f C sp:=
  ⟨fun A outer s H us vs Q E hr=>F.run A outer s H us vs Q E (hr.mono h)⟩
section
variable {X:Cx} {W:WX} {k:Nat} {f C:Addr} {sp:SpM} {m:Str} {apos pos:Pos} {o e:Expr} {es:List Expr} {ta:TDA} {pl:Sem Bool} {i:Nat}
end
section
variable {K:PySem.W.Frag} {G H:Hp} {so:So} {σ:L2.St} {sl:DSt} {x C:Addr} {fs:List (Str × D)} {i:Nat}
end
section
variable {X:Cx} {W:WX} {k n:Nat} {f C g:Addr} {fd:FuncData} {ps ks:List Str} {sp:SpD} {sel:List Sel} {m nm:Str} {p pos apos kpos:Pos} {o e:Expr} {es:List Expr} {kws:List Keyword} {ta tk':TDA} {te:TD} {pl:Sem Bool} {i:Nat}
end
section
variable {X:Cx} {W:WX} {x:Str} {kvs:List (Str × Int)} {o b c:Expr} {tb tc:TD} {apos cpos:Pos}
end
section
variable {X:Cx} {W:WX} {k n:Nat} {f:Addr} {fd:FuncData} {ps:List Str} {sp:SpD} {sel:List Sel} {x:Str} {p pos:Pos} {a0:Expr} {es:List Expr} {ta:TDA} {i:Nat}
end
section
variable {X:Cx} {W:WX} {k n:Nat} {f g C:Addr} {fd:FuncData} {ps ks:List Str} {sp:SpD} {sel:List Sel} {m nm:Str} {p pos apos kpos:Pos} {o e:Expr} {es:List Expr} {ta:TDA} {to te:TD} {pl:Sem Bool}
end
section
variable {C:Addr} {sp:SpD}
end
end DL
set_option maxHeartbeats 2000000
namespace DL
open PySem PySem.Spec PyProof.Rows L2
section
variable {K:PySem.W.Frag} {W:WX} {G G1 H H1:Hp} {so:So} {σ σ1:L2.St} {sl s1:DSt} {x C:Addr} {fs:List (Str × D)} {i:Nat}
end
section
variable {X:Cx} {W:WX} {st:Stmt} {rest:List Stmt} {t u:TDS} {i:Nat}
end
section
variable {M:Model} {A:Around} {E:Value->Shared->Prop} {env:Env} {Q:Flow->Shared->Prop}
theorem ajm (b:List Stmt) (Γ:PySem.Ctx) (hΓ:Γ.In A):∀ (a:List Stmt) (p:Pos) (s:Shared),PySem.Sem.wp M Γ (execs a env) (fun f _ s'=>match f with | .next=>wpAny M A (execs b env) Q E s' | f=>Q f s') (fun e _ s'=>E e s') p s->PySem.Sem.wp M Γ (execs (a++b) env) (fun f _ s'=>Q f s') (fun e _ s'=>E e s') p s
  | [],p,s,h=>by
    have e:execs [] env=pure .next:=by rw [execs]
    rw [e,PySem.Sem.wp_pure'] at h
    exact h Γ p hΓ
  | st::r,p,s,h=>by
    rw [execs_cons,PySem.Sem.wp_bind'] at h
    rw [List.cons_append,execs_cons,PySem.Sem.wp_bind']
    refine PySem.Sem.wp_mono M Γ _ (fun f p' s' h'=>?_) (fun _ _ _ h'=>h') _ _ h
    cases f with
    | next=>exact ajm b Γ hΓ r p' s' h'
    | ret v=>rw [PySem.Sem.wp_pure'] at h' ⊢;exact h'
    | brk=>rw [PySem.Sem.wp_pure'] at h' ⊢;exact h'
    | cont=>rw [PySem.Sem.wp_pure'] at h' ⊢;exact h'
end
theorem aox {X:Cx} {a b:List Stmt} {t u:TS} (h1:PSs X a t) (h2:PSs X b u):PSs X (a++b) (tSeq t u):=by
  refine ⟨fun pins s σ H D I h=>fun Γ p hΓ=>ajm b Γ hΓ a p s ?_⟩
  refine PySem.Sem.wp_mono _ Γ _ (fun f p' s' q=>?_) (fun _ _ _ h'=>h') _ _ (h1.run pins s σ H { D with nx:=u D } I h Γ p hΓ)
  cases f with
  | next=>
    obtain ⟨σ',H',I',q⟩:=q
    exact h2.run pins s' σ' H' D I' q
  | ret v=>exact q
  | brk=>exact q
  | cont=>exact q
section
variable {K:PySem.W.Frag} {G H:Hp} {so:So} {σ:L2.St} {sl:DSt} {x C:Addr} {fs:List (Str × D)} {i:Nat}
end
section
variable {X:Cx} {W:WX} {sts:List Stmt} {u t:TDS} {C:Addr} {i n:Nat}
end
section
variable {C:Addr} {sp:SpD}
end
section
variable {X:Cx} {W:WX} {k n:Nat} {f C:Addr} {fd:FuncData} {ps ks:List Str} {sp:SpI} {sel:List Sel} {x nm:Str} {p pos kpos:Pos} {e:Expr} {es:List Expr} {kws:List Keyword} {ta tk tk':TDA} {te:TD}
end
section
variable {X:Cx} {W:WX} {k n:Nat} {f g C:Addr} {fd:FuncData} {ps ks:List Str} {sp:SpD} {sel:List Sel} {m nm:Str} {p pos apos kpos:Pos} {o e:Expr} {es:List Expr} {kws:List Keyword} {ta tk':TDA} {to te:TD} {pl:Sem Bool}
end
section
variable {X:Cx} {W:WX} {k n:Nat} {f C:Addr} {fd:FuncData} {ps:List Str} {sp:SpM} {sel:List Sel} {x:Str} {p pos:Pos} {a0:Expr} {es:List Expr} {ta:TDA} {i:Nat}
end
end DL
set_option maxHeartbeats 4000000
namespace DL
open PySem PySem.Spec PyProof.Rows L2
section
variable {X:Cx} {W:WX} {rest:List Stmt} {t:TDS} {i:Nat}
end
section
variable {K:PySem.W.Frag} {G:Hp} {so:So} {σ σ1:L2.St} {H H1:Hp} {sl s1:DSt} {v:V} {y:D} {i:Nat}
end
section
variable {X:Cx} {W:WX} {a b c d:Expr} {ta:TD} {tl:TDA} {i j l m:Nat} {x y z w:Str} {pos:Pos}
end
end DL
namespace DL
section
open PySem PySem.SeqAt GQ
open AutoSeq1 (wpAny_loadPart')
open MeetsSeq MeetsSeq2 MeetsSeq3 SeqRoads2
variable {prog:Program} {w:World} {A:Around} {R:Result->Shared->Prop} {E:Value->Shared->Prop}
end
open PySem PySem.Spec PyProof.Rows L2
section
variable {X:Cx}
end
end DL
set_option maxHeartbeats 2000000
namespace DP
open PySem PySem.W PySem.Calls PyProof.Rows PyProof.V PySem.Spec
section
variable {prog:Program} {w:World} {KT:Type} [DecidableEq KT] {knd:KeyKind prog w KT} {A:Around} {E:Value->Shared->Prop} {s:Shared}
end
section
open PySem.SeqAt MeetsSeq MeetsSeq2 MeetsSeq3 SeqRoads2
open AutoSeq1 (wpAny_loadPart')
variable {prog:Program} {w:World} {A:Around} {R:Result->Shared->Prop} {E:Value->Shared->Prop}
end
end DP
namespace DL
open PySem PySem.Spec PyProof.Rows L2
section
variable {X:Cx} {k:Nat} {f C:Addr} {fd:FuncData} {ps:List Str} {sp:SpD}
end
mutual
inductive NT where
  | leaf (d:D)
  | node (a:Addr) (xs:List NT)
end
mutual
def NT.as:NT->List Addr
  | .leaf _=>[]
  | .node a xs=>a::NT.asL xs
def NT.asL:List NT->List Addr
  | []=>[]
  | x::r=>NT.as x++NT.asL r
end
mutual
inductive NOk (K:PySem.W.Frag) (G H:Hp):V->NT->Prop
  | leaf {v:V} {d:D}:DOk K G v d->NOk K G H v (.leaf d)
  | node {a:Addr} {vs:List V} {xs:List NT}:H a=some (.lst vs)->NAll K G H vs xs->NOk K G H (.ref a) (.node a xs)
inductive NAll (K:PySem.W.Frag) (G H:Hp):List V->List NT->Prop
  | nil:NAll K G H [] []
  | cons {v:V} {x:NT} {vs:List V} {xs:List NT}:NOk K G H v x->NAll K G H vs xs->NAll K G H (v::vs) (x::xs)
end
section
variable {K:PySem.W.Frag} {G G' H H':Hp}
mutual
theorem NOk.keep (e:Ex G G'):∀ {v:V} {t:NT},(∀ a∈t.as,H' a=H a)->NOk K G H v t->NOk K G' H' v t
  | _,.leaf _,_,.leaf h=>.leaf (h.mono e)
  | .ref a,.node _ _,k,.node h r=>.node (by rw [k a (by rw [NT.as];exact List.mem_cons_self ..)];exact h) (NAll.keep e (fun b hb=>k b (by rw [NT.as];exact List.mem_cons_of_mem _ hb)) r)
theorem NAll.keep (e:Ex G G'):∀ {vs:List V} {ts:List NT},(∀ a∈NT.asL ts,H' a=H a)->NAll K G H vs ts->NAll K G' H' vs ts
  | _,_,_,.nil=>.nil
  | _,_,k,.cons h r=>.cons (NOk.keep e (fun b hb=>k b (by rw [NT.asL];exact List.mem_append_left _ hb)) h) (NAll.keep e (fun b hb=>k b (by rw [NT.asL];exact List.mem_append_right _ hb)) r)
end
mutual
theorem NOk.lst:∀ {v:V} {t:NT},NOk K G H v t->∀ a∈t.as,∃ vs,H a=some (.lst vs)
  | _,_,.leaf _,a,m=>by rw [NT.as] at m;cases m
  | _,_,.node h r,b,m=>by
    rw [NT.as] at m
    rcases List.mem_cons.mp m with m | m
    · subst m;exact ⟨_,h⟩
    · exact NAll.lst r b m
theorem NAll.lst:∀ {vs:List V} {ts:List NT},NAll K G H vs ts->∀ a∈NT.asL ts,∃ vs,H a=some (.lst vs)
  | _,_,.nil,a,m=>by rw [NT.asL] at m;cases m
  | _,_,.cons h r,b,m=>by
    rw [NT.asL] at m
    rcases List.mem_append.mp m with m | m
    · exact NOk.lst h b m
    · exact NAll.lst r b m
end
end
def nestG (x:Addr) (t:NT):GR:=⟨t.as,fun K G H=>NOk K G H (.ref x) t/\t.as.Nodup,fun K G G' H H' e k h=>⟨h.1.keep e k,h.2⟩,fun _=>0⟩
def unP (G:Hp) (as:List Addr):Hp:=fun a=>if a∈as then none else G a
def puB (G H:Hp) (as:List Addr):Hp:=fun a=>if a∈as then H a else G a
section
variable {K:PySem.W.Frag} {G G1 H H1:Hp} {as:List Addr}
theorem aj6 {a:Addr} (m:a∈as):unP G as a=none:=by unfold unP;rw [if_pos m]
theorem aeQ {a:Addr} (m:a∉as):unP G as a=G a:=by unfold unP;rw [if_neg m]
theorem agA {a:Addr} (m:a∈as):puB G H as a=H a:=by unfold puB;rw [if_pos m]
theorem ade {a:Addr} (m:a∉as):puB G H as a=G a:=by unfold puB;rw [if_neg m]
theorem apA:Ex (unP G as) G:=fun a o e=>by
  by_cases m:a∈as
  · rw [aj6 m] at e;cases e
  · rw [aeQ m] at e;exact e
theorem aiY (g:∀ a∈as,G a=none):Ex G (puB G H as):=fun a o e=>by
  rw [ade (fun m=>by rw [g a m] at e;cases e)];exact e
end
section
variable {K:PySem.W.Frag} {W:WX} {G G1 H H1:Hp} {so:So} {σ σ1:L2.St} {sl s1:DSt} {x:Addr} {t:NT} {i:Nat}
end
section
variable {K:PySem.W.Frag} {W:WX} {G H:Hp} {so:So} {σ:L2.St} {sl:DSt} {x:Addr} {t:NT} {i:Nat} {X:Cx} {e:Expr} {te:TD} {tt:TDT}
end
end DL
set_option maxHeartbeats 4000000
namespace DL
open PySem PySem.Spec PyProof.Rows L2
abbrev nRow (p:Addr × List D):NT:=.node p.1 (p.2.map .leaf)
section
variable {K:PySem.W.Frag} {G G' H H':Hp}
theorem NAll.leaves:∀ {vs:List V} {ds:List D},DAll K G vs ds->NAll K G H vs (ds.map .leaf)
  | _,_,.nil=>.nil
  | _,_,.cons h t=>.cons (.leaf h) (NAll.leaves t)
theorem afL:∀ (ds:List D),NT.asL (ds.map .leaf)=[]
  | []=>by rw [List.map_nil,NT.asL]
  | d::r=>by rw [List.map_cons,NT.asL,NT.as,afL r];rfl
theorem afq:∀ (ps:List (Addr × List D)),NT.asL (ps.map nRow)=ps.map (·.1)
  | []=>by rw [List.map_nil,NT.asL];rfl
  | p::r=>by rw [List.map_cons,NT.asL,NT.as,afL,afq r];rfl
end
structure NstOk (K:PySem.W.Frag) (G H:Hp) (so:So) (sl0 sl:DSt) (σ:L2.St) (H1:Hp) (C:Addr) (us:List V) (ps:List (Addr × List D)):Prop where
  ok:NAll K G H us (ps.map nRow)
  own:∀ p∈ps,so.Nt p.1/\G p.1=none/\p.1≠C/\¬ Own sl σ p.1
  new:∀ p∈ps,H1 p.1=none\/Own sl0 σ p.1
  nd:(ps.map (·.1)).Nodup
section
variable {K:PySem.W.Frag} {G G' H H' H1:Hp} {so:So} {sl0 sl sl':DSt} {σ:L2.St} {C:Addr} {us:List V} {ps:List (Addr × List D)}
theorem NstOk.there (h:NstOk K G H so sl0 sl σ H1 C us ps) (p:Addr × List D) (hp:p∈ps):H p.1≠none:=by
  obtain ⟨vs,q⟩:=NAll.lst h.ok p.1 (by rw [afq];exact List.mem_map_of_mem hp)
  rw [q];simp
theorem NstOk.step (h:NstOk K G H so sl0 sl σ H1 C us ps) (e:Ex G G') (k:∀ a o,H a=some o->so.Nt a->H' a=some o) (f:∀ a,H a≠none->G a=none->so.Nt a->¬ Own sl σ a->G' a=none) (s:∀ a,Own sl' σ a->Own sl σ a):NstOk K G' H' so sl0 sl' σ H1 C us ps:=
  ⟨h.ok.keep e (fun a m=>by
    rw [afq] at m
    obtain ⟨p,hp,rfl⟩:=List.mem_map.mp m
    exact aby k (h.there p hp) (h.own p hp).1),fun p hp=>by
    obtain ⟨m1,m2,m3,m4⟩:=h.own p hp
    exact ⟨m1,f _ (h.there p hp) m2 m1 m4,m3,fun z=>m4 (s _ z)⟩,h.new,h.nd⟩
end
section
variable {W:WX} {vs0:List Nat} {ti:TDI} {g:TDG} {tt:TDT} {te:TD} {ix:List Nat}
end
abbrev nT (C:Addr) (ps:List (Addr × List D)):NT:=.node C (ps.map nRow)
abbrev nestD (C:Addr) (ps:List (Addr × List D)):DV:=.gh C (nestG C (nT C ps))
theorem alL (C:Addr) (ps:List (Addr × List D)):(nT C ps).as=C::ps.map (·.1):=by rw [NT.as,afq]
section
variable {K:PySem.W.Frag} {W:WX} {G G1 H H1:Hp} {so:So} {σ σ1:L2.St} {sl s1:DSt} {as:List Addr} {i:Nat} {C:Addr} {ps:List (Addr × List D)} {t:NT}
end
section
variable {X:Cx} {W:WX} {elt tg iter:Expr} {ifs:List Expr} {scope:Scope} {own:List (Str × Nat)} {pos spos:Pos} {ti:TDI} {g:TDG} {tt:TDT} {te:TD} {ix:List Nat} {rest:List Stmt} {u t:TDS} {n:Nat}
end
section
variable {K:PySem.W.Frag} {W:WX} {G G1 H H1:Hp} {so:So} {σ σ1:L2.St} {sl s1:DSt} {i:Nat} {C:Addr} {y:V} {d:D}
theorem NAll.unleaf:∀ {vs:List V} {ds:List D},NAll K G H vs (ds.map .leaf)->DAll K G vs ds
  | _,[],h=>by cases h;exact .nil
  | _,e::r,h=>by
    cases h with
    | cons h t=>
      cases h with
      | leaf h=>exact .cons h (NAll.unleaf t)
theorem NAll.setRow:∀ {us:List V} {ps:List (Addr × List D)} {j k:Nat} {p:Addr × List D} {vs:List V},NAll K G H us (ps.map nRow)->(ps.map (·.1)).Nodup->ps[j]?=some p->H p.1=some (.lst vs)->DOk K G y d->NAll K G (upd H p.1 (.lst (vs.set k y))) us ((ps.set j (p.1,p.2.set k d)).map nRow)
  | _,[],_,_,_,_,_,_,e,_,_=>by simp at e
  | _,q::r,0,k,p,vs,h,nd,e,hp,w=>by
    simp at e;subst e
    cases h with
    | cons h t=>
      cases h with
      | node h l=>
        rw [hp] at h;cases h
        refine .cons (.node upd_same (NAll.leaves (DAll.set w k (NAll.unleaf l)))) (NAll.keep (Ex.refl G) (fun b m=>upd_ne fun z=>?_) t)
        rw [afq] at m
        rw [List.map_cons,List.nodup_cons] at nd
        exact nd.1 (z ▸ m)
  | _,q::r,j + 1,k,p,vs,h,nd,e,hp,w=>by
    have e':r[j]?=some p:=by simpa using e
    have ne:q.1≠p.1:=fun z=>by
      rw [List.map_cons,List.nodup_cons] at nd
      exact nd.1 (z ▸ List.mem_map_of_mem (List.mem_of_getElem? e'))
    cases h with
    | cons h t=>
      refine .cons ?_ (NAll.setRow t (List.nodup_cons.mp nd).2 e' hp w)
      refine NOk.keep (Ex.refl G) (fun b m=>upd_ne fun z=>?_) h
      rw [NT.as,afL] at m
      exact ne ((List.mem_singleton.mp m).symm.trans z)
theorem alf:∀ {ps:List (Addr × List D)} {j:Nat} {p:Addr × List D} {es:List D},ps[j]?=some p->(ps.set j (p.1,es)).map (·.1)=ps.map (·.1)
  | [],_,_,_,e=>by simp at e
  | q::r,0,p,es,e=>by simp at e;subst e;rfl
  | q::r,j + 1,p,es,e=>by
    have z:=alf (ps:=r) (j:=j) (p:=p) (es:=es) (by simpa using e)
    show q.1::((r.set j (p.1,es)).map (·.1))=q.1::r.map (·.1)
    rw [z]
theorem slotNest {ps:List (Addr × List D)} (r:Rep K G so σ H sl) (e:sl[i]?=some (some (nestD C ps))):σ[i]?=some (some (.ref C))/\(∃ us,H C=some (.lst us)/\NAll K G H us (ps.map nRow))/\(∀ a∈(nT C ps).as,(a,Kd.mt 0)∈so/\H a≠none)/\C∉ps.map (·.1)/\(ps.map (·.1)).Nodup:=by
  obtain ⟨v,e1,rfl,mx,nk,nd⟩:=r.slots i _ e
  have nd:(nT C ps).as.Nodup:=nd
  rw [alL,List.nodup_cons] at nd
  have nk:NOk K G H (.ref C) (nT C ps):=nk
  cases nk with
  | node h l=>exact ⟨e1,⟨_,h,l⟩,mx,nd.1,nd.2⟩
theorem PostS.nest {ps:List (Addr × List D)} {p:Addr × List D} {vs:List V} {j k:Nat} (r:Rep K G so σ H sl) (e:sl[i]?=some (some (nestD C ps))) (nm:noMu (sl.set i none)=true) (ep:ps[j]?=some p) (hp:H p.1=some (.lst vs)) (w:DOk K G y d) :
    PostS K G so σ H sl σ (upd H p.1 (.lst (vs.set k y))) G (sl.set i (some (nestD C (ps.set j (p.1,p.2.set k d))))):=by
  obtain ⟨e1,⟨us,hC,al⟩,mx,cn,nd⟩:=slotNest r e
  have pm:p.1∈(nT C ps).as:=by rw [alL];exact List.mem_cons_of_mem _ (List.mem_map_of_mem (List.mem_of_getElem? ep))
  have ps0:(p.1,Kd.mt 0)∈so:=(mx _ pm).1
  have gp:G p.1=none:=(r.h.vol _ _ ps0).g
  have nC:C≠p.1:=fun z=>cn (z ▸ List.mem_map_of_mem (List.mem_of_getElem? ep))
  have nt:∀ a,so.Nt a->a≠p.1:=fun a s z=>s ⟨_,z ▸ ps0⟩
  have li:i < sl.length:=(List.getElem?_eq_some_iff.mp e).1
  have own:∀ a,Own (sl.set i (some (nestD C (ps.set j (p.1,p.2.set k d))))) σ a->Own sl σ a:=fun a ⟨m,o,f1,f2⟩=>by
    rcases get_set f1 with ⟨_,z⟩ | ⟨_,z⟩
    · cases z
    · exact ⟨m,o,z,f2⟩
  have eas:(nT C (ps.set j (p.1,p.2.set k d))).as=(nT C ps).as:=by rw [alL,alL,alf ep]
  refine ⟨Ex.refl G,⟨⟨fun a o q=>?_,fun a kd q=>?_,r.h.ok,aea r.h.tp (by intro _ z;cases z)⟩,by rw [List.length_set];exact r.len,fun m dv f=>?_,fun m n o o' b f1 f2 f3 f4=>?_,fun m o b f1 f2 z=>?_,fun m o f=>?_⟩,fun a o q s _=>by rw [upd_ne (nt a s)];exact q,fun a _ g _ _=>g,fun a _ _ z y=>z (own a y),rfl⟩
  · rw [upd_ne (ne_of_none q gp)];exact r.h.ex a o q
  · by_cases z:a=p.1
    · subst z
      cases r.h.ok.uq _ _ _ q ps0
      exact ⟨gp,.inr ⟨_,.inl upd_same⟩⟩
    · exact (r.h.vol a kd q).keep (Ex.refl G) (r.h.vol a kd q).g (upd_ne z)
  · rcases get_set f with ⟨rfl,z⟩ | ⟨nj,z⟩
    · cases z
      refine ⟨_,e1,rfl,fun a m=>?_,?_,?_⟩
      · have m:a∈(nT C ps).as:=eas ▸ m
        refine ⟨(mx a m).1,?_⟩
        by_cases z:a=p.1
        · subst z;rw [upd_same];simp
        · rw [upd_ne z];exact (mx a m).2
      · exact .node (by rw [upd_ne nC];exact hC) (NAll.setRow al nd ep hp w)
      · show (nT C (ps.set j (p.1,p.2.set k d))).as.Nodup
        rw [eas,alL];exact List.nodup_cons.mpr ⟨cn,nd⟩
    · obtain ⟨u,w1,w2⟩:=r.slots m dv z
      refine ⟨u,w1,?_⟩
      have q:∀ x,(sl.set i none)[m]?=some (some x) ↔ sl[m]?=some (some x):=fun x=>by rw [List.getElem?_set_ne (fun z=>nj z.symm)]
      cases dv with
      | d z=>exact w2
      | src=>exact w2
      | own o=>obtain ⟨b,q1,q2,q3,q4⟩:=w2;exact ⟨b,q1,q2,q3,q4.keep (Ex.refl G) (upd_ne (nt b q3))⟩
      | bor o=>obtain ⟨b,q1,q3,q4⟩:=w2;exact ⟨b,q1,q3,q4.keep (Ex.refl G) (upd_ne (nt b q3))⟩
      | see o=>exact absurd z (r.nse m o)
      | mu x D gs=>exact absurd ((q _).mpr z) (aic nm)
      | gh x g=>exact absurd ((q _).mpr z) (agH nm)
  · have g:∀ (m:Nat) (o3:OO),(sl.set i (some (nestD C (ps.set j (p.1,p.2.set k d)))))[m]?=some (some (.own o3))->sl[m]?=some (some (.own o3)):=fun m o3 em=>by
      rcases get_set em with ⟨_,q⟩ | ⟨_,q⟩
      · cases q
      · exact q
    exact r.sep m n o o' b (g _ _ f1) (g _ _ f2) f3 f4
  · rcases get_set f1 with ⟨_,q⟩ | ⟨_,q⟩
    · cases q
    · exact r.bor m o b q f2 (own _ z)
  · rcases get_set f with ⟨_,q⟩ | ⟨_,q⟩
    · cases q
    · exact r.nse m o q
end
section
variable {X:Cx} {W:WX} {o key1 key value:Expr} {tj tk te:TD} {pos pos' pos'':Pos} {i:Nat}
end
section
variable {X:Cx} {W:WX} {e:Expr} {te:TD} {tt:TDT}
end
def bad1 (e:Nat->Nat->D) (i j:Nat):Prop:=match ratOf (e i j) with
  | none=>True
  | some q=>q < 0\/(i=j/\q≠0)
def bad2 (n:Nat) (f:Nat->Nat->Rat) (i j:Nat):Prop:=∃ k,k < n/\f i k + f k j < f i j
def ahead (n i j i' j':Nat):Prop:=i' < n/\j' < n/\(i' < i\/(i'=i/\j' < j))
def FirstW (n:Nat) (e:Nat->Nat->D) (Q:D->Prop):Prop:=
  (∀ i j,i < n->j < n->bad1 e i j->(∀ i' j',ahead n i j i' j'->¬ bad1 e i' j')->Q (.tup [.int (i:Int),.int (j:Int)]))/\
  ((∀ i j,i < n->j < n->¬ bad1 e i j)->∀ f:Nat->Nat->Rat,(∀ i j,i < n->j < n->ratOf (e i j)=some (f i j))->
    (∀ i j,i < n->j < n->bad2 n f i j->(∀ i' j',ahead n i j i' j'->¬ bad2 n f i' j')->Q (.tup [.int (i:Int),.int (j:Int)]))/\((∀ i j,i < n->j < n->¬ bad2 n f i j)->Q .non))
theorem FirstW.mono {n:Nat} {e:Nat->Nat->D} {Q Q':D->Prop} (h:FirstW n e Q) (m:∀ d,Q d->Q' d):FirstW n e Q':=
  ⟨fun i j a b c d=>m _ (h.1 i j a b c d),fun a f b=>⟨fun i j c d x y=>m _ ((h.2 a f b).1 i j c d x y),fun c=>m _ ((h.2 a f b).2 c)⟩⟩
section
variable {P:Program} {w:World} {K:PySem.W.Frag} {mg:Str->Option Value} {base:Heap} {x qual:Str} {params:Arguments} {body:List Stmt} {scope:Scope} {dvs:List V} {kws:List (Str × V)} {fa:Addr} {fd:FuncData} {N:List Str} {k:Nat} {t:TDS}
end
section
variable {X:Cx} {W:WX} {k n:Nat} {f:Addr} {fd:FuncData} {ps ks:List Str} {sp:SpD} {sel:List Sel} {x nm:Str} {p pos kpos:Pos} {e:Expr} {es:List Expr} {kws:List Keyword} {ta tk tk':TDA} {te:TD}
end
section
variable {X:Cx} {W:WX} {k n:Nat} {f C:Addr} {fd:FuncData} {ps ks:List Str} {sp:SpD} {sel:List Sel} {m nm:Str} {p pos apos kpos:Pos} {o e:Expr} {es:List Expr} {kws:List Keyword} {ta tk tk':TDA} {to te:TD} {pl:Sem Bool}
end
section
variable {X:Cx} {W:WX} {k:Nat} {C p g:Addr} {f:Str} {fd:FuncData} {ps:List Str} {sp:SpD} {e:Expr} {te:TD} {pos:Pos}
end
section
variable {X:Cx} {W:WX} {k:Nat} {f:Addr} {fd:FuncData} {ps:List Str} {sp:SpD}
end
end DL
namespace PySem.W
open PySem PySem.Calls PyProof.Rows Builtin
section
variable {prog:Program} {w:World} {A:Around} {E:Value->Shared->Prop} {s:Shared} {K:Frag} {x C L f:Addr} {h₀:Heap} {m:Str->Option Value} {ox:Obj} {od:Option Obj} {name:Str}
end
end PySem.W
namespace DL
open PySem PySem.Spec PyProof.Rows L2
mutual
def dpI:D->Nat
  | .lst ds=>dpIs ds + 1
  | .tup ds=>dpIs ds + 1
  | .non=>0
  | .bl _=>0
  | .int _=>0
  | .str _=>0
  | .ins _ _=>0
  | .dk _=>0
  | .dt _=>0
  | .any=>0
  | .raw _=>0
  | .kt _=>0
def dpIs:List D->Nat
  | []=>0
  | d::r=>max (dpI d) (dpIs r)
end
mutual
def okI (C:Addr) (P:List (Str × D)->Prop):D->Prop
  | .non=>True
  | .bl _=>True
  | .str _=>True
  | .int i=>i.natAbs.log2 < 1920
  | .lst ds=>okIs C P ds
  | .tup ds=>okIs C P ds
  | .ins D fs=>D=C/\P fs
  | .dk _=>False
  | .dt _=>False
  | .any=>False
  | .raw _=>False
  | .kt _=>False
def okIs (C:Addr) (P:List (Str × D)->Prop):List D->Prop
  | []=>True
  | d::r=>okI C P d/\okIs C P r
end
section
variable {X:Cx} {pins:List (Addr × Obj)} {σ:L2.St} {G G' H:Hp} {s:Shared} {C:Addr} {P:List (Str × D)->Prop}
def GdOk (X:Cx) (C:Addr) (P:List (Str × D)->Prop) (G:Hp) (g:List Code) (n:Nat):Prop:=∀ (id:String) (v:Value) (rest:List Value) (kw:List (Str × Value)),Code.builtin id ⟨v::rest,kw⟩∈g->∃ a d,v=.ref a/\DOk X.K G (.ref a) d/\okI C P d/\n < dpI d
theorem GdOk.mono {g:List Code} {n m:Nat} (h:GdOk X C P G g n) (e:Ex G G') (l:m<=n):GdOk X C P G' g m:=fun id v rest kw q=>by
  obtain ⟨a,d,e1,e2,e3,e4⟩:=h id v rest kw q
  exact ⟨a,d,e1,e2.mono e,e3,by omega⟩
theorem GdOk.cons {g:List Code} {n m:Nat} {a:Addr} {d:D} {id:String} {rest:List Value} {kw:List (Str × Value)} (h:GdOk X C P G g n) (w:DOk X.K G (.ref a) d) (o:okI C P d) (l:m < dpI d) (l2:m<=n):GdOk X C P G (.builtin id ⟨.ref a::rest,kw⟩::g) m:=fun id' v rest' kw' q=>by
  rcases List.mem_cons.mp q with e | q
  · cases e
    exact ⟨a,d,rfl,w,o,l⟩
  · exact h.mono (Ex.refl G) l2 id' v rest' kw' q
end
theorem Room.shown {k:Nat} {A:Around} {c:Code} (r:Room (k + 1) A) (hw:c.weight<=1) (hu:(A.under c).units=A.units + 1):Room k (A.under c):=
  ⟨r.hd,by have:=r.dp;show A.depth + c.weight + 3 * k + 5 < _;omega,by have:=r.un;rw [hu];omega⟩
section
variable {X:Cx} {k:Nat} {C f:Addr} {fd:FuncData} {ps:List Str} {sp:SpD} {P:List (Str × D)->Prop} {rp:List (Str × D)->Str}
end
section
variable {X:Cx} {k:Nat} {C f:Addr} {fd:FuncData} {ps:List Str} {sp:SpD} {P:List (Str × D)->Prop} {rp:List (Str × D)->Str}
end
section
variable {g:TDG} {tt:TDT} {te:TD} {vs:List Nat} {Q:List (List D)->DSt->Prop}
end
section
variable {X:Cx} {o e:Expr} {es:List Expr} {to:TE} {t:TA} {name:Str} {apos cpos:Pos} {id:String} {r:V->List V->Hp->VK->Prop}
end
section
variable {K:PySem.W.Frag} {W:WX} {G G' H H':Hp} {so:So} {σ σ':L2.St} {sl sl':DSt} {x:Addr} {ds:List D} {i:Nat}
end
section
variable {X:Cx} {W:WX} {i:Nat} {e:Expr} {te:TD} {tt:TDT}
end
section
variable {X:Cx} {W:WX} {i:Nat} {st:Stmt} {t:TDS}
end
section
variable {X:Cx} {W:WX} {o e:Expr} {te:TD} {apos pos:Pos} {i:Nat}
end
end DL
namespace DL
open PySem PySem.Spec PyProof.Rows L2 PySem.W
section
variable {X:Cx} {W:WX} {k:Nat} {f C:Addr} {sp:SpD} {m:Str} {pos apos:Pos} {o:Expr} {to:TD} {pl:Sem Bool}
end
end DL
namespace DL
open PySem PySem.Spec PyProof.Rows L2
abbrev Ent:=Option Addr × List (List Key × D)
structure WSt where
  rk:D
  sp:List D
  es:List (Str × Ent)
def ownA:List (Str × Ent)->List Addr
  | []=>[]
  | (_,some t,_)::r=>t::ownA r
  | (_,none,_)::r=>ownA r
inductive EAll (K:PySem.W.Frag) (G H:Hp):List (Key × V)->List (Str × Ent)->Prop
  | nil:EAll K G H [] []
  | pub {l:Str} {v:V} {kvs:List (List Key × D)} {vs:List (Key × V)} {es:List (Str × Ent)}:DOk K G v (.dt kvs)->EAll K G H vs es->EAll K G H ((.inr l,v)::vs) ((l,none,kvs)::es)
  | own {l:Str} {t:Addr} {ws:List (List Key × V)} {kvs:List (List Key × D)} {vs:List (Key × V)} {es:List (Str × Ent)}:H t=some (.dT ws)->FAll K G ws kvs->EAll K G H vs es->EAll K G H ((.inr l,.ref t)::vs) ((l,some t,kvs)::es)
section
variable {K:PySem.W.Frag} {G G' H H':Hp}
theorem EAll.keep (e:Ex G G'):∀ {vs:List (Key × V)} {es:List (Str × Ent)},(∀ a∈ownA es,H' a=H a)->EAll K G H vs es->EAll K G' H' vs es
  | _,_,_,.nil=>.nil
  | _,_,k,.pub d r=>.pub (d.mono e) (EAll.keep e k r)
  | _,_,k,.own h f r=>.own (by rw [k _ (List.mem_cons_self ..)];exact h) (f.mono e) (EAll.keep e (fun a m=>k a (List.mem_cons_of_mem _ m)) r)
theorem EAll.there:∀ {vs:List (Key × V)} {es:List (Str × Ent)},EAll K G H vs es->∀ a∈ownA es,∃ ws,H a=some (.dT ws)
  | _,_,.nil,a,m=>by cases m
  | _,_,.pub _ r,a,m=>r.there a m
  | _,_,.own h _ r,a,m=>by
    rcases List.mem_cons.mp m with rfl | m
    · exact ⟨_,h⟩
    · exact r.there a m
theorem EAll.keys:∀ {vs:List (Key × V)} {es:List (Str × Ent)},EAll K G H vs es->(vs.map fun kv=>kV kv.1)=(es.map (·.1)).map V.str
  | _,_,.nil=>rfl
  | _,_,.pub _ r=>by rw [List.map_cons,List.map_cons,List.map_cons,r.keys];rfl
  | _,_,.own _ _ r=>by rw [List.map_cons,List.map_cons,List.map_cons,r.keys];rfl
end
section
variable {K:PySem.W.Frag} {G H:Hp}
end
section
variable {K:PySem.W.Frag} {W:WX} {G G1 H H1:Hp} {so:So} {σ σ1:L2.St} {sl s1:DSt} {i:Nat} {x a:Addr} {g g':GR} {o:HO}
variable {w tb CW:Addr} {st:WSt}
end
section
variable {X:Cx} {W:WX} {o key value:Expr} {tk te:TD} {pos pos' p:Pos} {i:Nat} {CW:Addr}
end
abbrev SpW:=List DV->WSt->(DV->WSt->Prop)->(Value->List (Str × D)->WSt->Prop)->Prop
section
variable {K:PySem.W.Frag} {G G' H H':Hp} {so:So} {as:List Addr} {kd:Addr->Addr} {v:V} {dv:DV}
inductive AsOk (K:PySem.W.Frag) (G:Hp) (so:So) (H:Hp):List V->List DV->Prop
  | nil:AsOk K G so H [] []
  | cons {v:V} {d:DV} {vs:List V} {ds:List DV}:VOk K G so H v d->(∀ o,d≠.own o)->AsOk K G so H vs ds->AsOk K G so H (v::vs) (d::ds)
  | gh {x:Addr} {r:GR} {vs:List V} {ds:List DV}:r.as=[]->r.R K G H->AsOk K G so H vs ds->AsOk K G so H (.ref x::vs) (.gh x r::ds)
theorem AsOk.length:∀ {vs:List V} {ds:List DV},AsOk K G so H vs ds->vs.length=ds.length
  | _,_,.nil=>rfl
  | _,_,.cons _ _ t=>congrArg (· + 1) t.length
  | _,_,.gh _ _ t=>congrArg (· + 1) t.length
end
section
variable {K:PySem.W.Frag} {W:WX} {G G' H H':Hp} {so:So} {σ:L2.St} {sl:DSt} {x w tb CW:Addr} {g g':GR} {v:V} {dv:DV} {st st':WSt} {i:Nat}
end
section
variable {X:Cx} {W:WX} {k n:Nat} {f CW:Addr} {fd:FuncData} {ps:List Str} {sp:SpW} {sel:List Sel} {m:Str} {pos apos:Pos} {o e:Expr} {es:List Expr} {ta:TDA} {pl:Sem Bool} {i:Nat}
end
end DL
namespace DL.DCT
open PySem PySem.Spec PyProof.Rows L2 DL
section
variable {prog:Program} {w:World} {A:Around} {R:Result->Shared->Prop} {s:Shared} {kx vx t i:Expr} {ifs:List Expr} {gens:List Comprehension} {scope:Scope} {pos:Pos} {it:Value} {D:Addr} {env:Env} {d:Nat}
end
section
variable {Y:Cx} {kx vx:Expr} {gens:List Comprehension} {scope:Scope} {pos:Pos} {D:Addr}
end
section
variable {X:Cx}
end
abbrev TA:=List (List Key × D)
abbrev DBody:=(TA->DSt->Prop)->TA->DSt->Prop
section
variable {body:DBody} {g:TDG} {tt:TDT} {vs:List Nat} {F:TA->DSt->Prop} {acc:TA} {sl:DSt}
end
structure CSt (K:PySem.W.Frag) (C:Addr) (n:Nat) (G:Hp) (so:So) (σ:L2.St) (H:Hp) (sl:DSt) (us:List (List Key × V)) (acc:TA):Prop where
  rep:Rep K G so σ H sl
  hC:H C=some (.dT us)
  gC:G C=none
  nt:so.Nt C
  no:¬ Own sl σ C
  al:FAll K G us acc
  nb:∀ (j:Nat) (o:OO),sl[j]?=some (some (.bor o))->σ[j]?=some (some (.ref C))->False
  ln:σ.length=n
section
variable {K:PySem.W.Frag} {C:Addr} {n:Nat} {G G' G2:Hp} {so:So} {σ σ' σ2:L2.St} {H H' H2:Hp} {sl sl' sl2:DSt} {us:List (List Key × V)} {acc:TA}
theorem CSt.wipe (c:CSt K C n G so σ H sl us acc) (vs:List Nat):CSt K C n G so (L2.wipe σ vs) H (wipeD sl vs) us acc where
  rep:=c.rep.wipe vs
  hC:=c.hC
  gC:=c.gC
  nt:=c.nt
  no:=fun z=>c.no (aba z)
  al:=c.al
  nb:=fun j o e1 e2=>c.nb j o (aal e1).1 (wipe_some e2).1
  ln:=(wipe_length σ vs).trans c.ln
end
section
variable {K:PySem.W.Frag} {n:Nat} {C:Addr}
end
section
variable {X:Cx} {W:WX} {kx vx tg iter:Expr} {ifs:List Expr} {scope:Scope} {own:List (Str × Nat)} {pos:Pos} {ti:TDI} {g':TG} {g:TDG} {tt:TDT} {tk tv:TD} {ix:List Nat} {r:List ClX}
end
section
variable {X:Cx} {W:WX} {kx vx tg iter:Expr} {ifs:List Expr} {scope:Scope} {own:List (Str × Nat)} {pos:Pos} {ti:TDI} {g':TG} {g:TDG} {tt:TDT} {tk tv:TD} {ix:List Nat} {r:List ClX}
end
section
variable {X:Cx} {W:WX} {kx vx tg iter tg1 iter1 tg2 iter2:Expr} {ifs ifs1 ifs2:List Expr} {scope:Scope} {own:List (Str × Nat)} {pos:Pos} {ti ti1 ti2:TDI} {g' g1' g2':TG} {g g1 g2:TDG} {tt tt1 tt2:TDT} {tk tv:TD} {ix ix1 ix2:List Nat}
end
end DL.DCT
namespace DL
open PySem PySem.Spec PyProof.Rows L2
section
variable {K:PySem.W.Frag} {G H:Hp}
end
section
variable {K:PySem.W.Frag} {G H:Hp}
end
section
variable {X:Cx} {W:WX} {o key value:Expr} {tk te:TD} {pos pos':Pos} {i j:Nat} {CW:Addr}
end
end DL
namespace DL
open PySem PySem.Spec PyProof.Rows L2 PySem.W PySem.Calls
def cellP (a:Addr) (v:V):Heap->Prop:=fun h=>∃ u,RelV v u/\h.IsCell a (some u)
abbrev CellHO (o:Obj) (a:Addr) (v:V):HO:=.frz o (.ext (cellP a v))
inductive CellsIn (K:PySem.W.Frag) (G:Hp):List (Str × Addr)->List (Str × D)->Prop
  | nil:CellsIn K G [] []
  | cons {x:Str} {a:Addr} {o:Obj} {v:V} {d:D} {cl:List (Str × Addr)} {fv:List (Str × D)}:G a=some (CellHO o a v)->DOk K G v d->CellsIn K G cl fv->CellsIn K G ((x,a)::cl) ((x,d)::fv)
section
variable {K:PySem.W.Frag} {G G1 H H1:Hp} {cs:List Addr} {so:So}
end
section
variable {P:Program} {wd:World} {H H1:Hp} {h h':Heap} {cs:List Addr} {fs:List Addr}
end
section
variable {P:Program} {wd:World} {K:PySem.W.Frag} {mg:Str->Option Value} {base:Heap} {N ps fn:List Str} {q:Str} {scope:Scope} {cl:List (Str × Addr)} {f c':Addr} {A:Around} {outer:List Env} {s:Shared} {H:Hp} {E:XK} {us:List Value} {vs cvs:List V} {h1:Heap} {tk:Nat}
end
theorem CellsIn.mono {K:PySem.W.Frag} {G G1:Hp} (e:Ex G G1):∀ {cl:List (Str × Addr)} {fv:List (Str × D)},CellsIn K G cl fv->CellsIn K G1 cl fv
  | _,_,.nil=>.nil
  | _,_,.cons h d r=>.cons (e _ _ h) (d.mono e) (CellsIn.mono e r)
theorem CellsIn.names {K:PySem.W.Frag} {G:Hp}:∀ {cl:List (Str × Addr)} {fv:List (Str × D)},CellsIn K G cl fv->cl.map (·.1)=fv.map (·.1)
  | _,_,.nil=>rfl
  | _,_,.cons h d r=>by rw [List.map_cons,List.map_cons,r.names]
section
variable {P:Program} {wd:World} {K:PySem.W.Frag} {mg:Str->Option Value} {base:Heap} {N ps fn:List Str} {q:Str} {params:Arguments} {body:Expr} {scope:Scope} {f:Addr} {k:Nat} {te:TD} {fv:List (Str × D)} {G:Hp}
end
section
variable {X:Cx} {W:WX} {x:Str} {j k:Nat} {e:Expr} {es:List Expr} {ta:TDA} {p pos:Pos}
end
section
variable {K:PySem.W.Frag} {G H:Hp} {so:So}
end
inductive CapD (sl:DSt):List (Str × Nat)->List (Str × D)->Prop
  | nil:CapD sl [] []
  | cons {x:Str} {j:Nat} {d:D} {ix:List (Str × Nat)} {fv:List (Str × D)}:sl[j]?=some (some (.d d))->CapD sl ix fv->CapD sl ((x,j)::ix) ((x,d)::fv)
theorem CapD.names {sl:DSt}:∀ {ix:List (Str × Nat)} {fv:List (Str × D)},CapD sl ix fv->fv.map (·.1)=ix.map (·.1)
  | _,_,.nil=>rfl
  | _,_,.cons _ r=>by rw [List.map_cons,List.map_cons,r.names]
section
variable {X:Cx} {pins:List (Addr × Obj)} {σ:L2.St} {H G:Hp} {s:Shared} {so:So} {sl:DSt}
end
section
variable {X:Cx} {W:WX} {k j i:Nat} {f0 f c' w tb CW:Addr} {fd:FuncData} {ps ps0 N fn:List Str} {sp:SpW} {pins:List (Addr × Obj)} {σ:L2.St} {H G:Hp} {so:So} {sl:DSt} {s:Shared} {Q:VK} {u:Value} {x:V} {d:D} {Q':DV->DSt->Prop} {st:WSt} {q:Str} {params:Arguments} {body:Expr} {scope:Scope} {tl:TD} {ix:List (Str × Nat)} {fv:List (Str × D)}
end
section
variable {X:Cx} {W:WX} {k j i:Nat} {f0 CW c:Addr} {fd:FuncData} {ps ps0 N fn:List Str} {sp:SpW} {m:Str} {params:Arguments} {body o e:Expr} {scope:Scope} {tl te:TD} {ix:List (Str × Nat)} {pos apos lpos:Pos} {pl:Sem Bool}
end
abbrev SpK:=List DV->(D->Prop)->Prop
theorem AsOk.drop {K:PySem.W.Frag} {G H:Hp} {so:So}:∀ {vs:List V} {ds:List DV},AsOk K G so H vs ds->AsOk K G so.drop H vs ds
  | _,_,.nil=>.nil
  | _,_,.cons h n t=>.cons h.drop n (AsOk.drop t)
  | _,_,.gh z h t=>.gh z h (AsOk.drop t)
section
variable {X:Cx} {W:WX} {k j:Nat} {f0 f c' c:Addr} {fd:FuncData} {ps ps0 N fn:List Str} {sp:SpK} {pins:List (Addr × Obj)} {σ:L2.St} {H G:Hp} {so:So} {sl:DSt} {s:Shared} {Q:VK} {u:Value} {x:V} {d:D} {Q':DV->DSt->Prop} {q:Str} {params:Arguments} {body:Expr} {scope:Scope} {tl te:TD} {ix:List (Str × Nat)} {fv:List (Str × D)}
variable {pos lpos p:Pos} {e:Expr} {nm:Str}
end
end DL
namespace DL
open PySem PySem.Spec PyProof.Rows L2
abbrev ES:=List (Str × Ent)
def Orph (K:PySem.W.Frag) (G:Hp) (so:So) (σ:L2.St) (H:Hp) (sl:DSt) (tb:Addr) (es:ES):Prop:=∃ ents,H tb=some (.dK ents)/\EAll K G H ents es/\(∀ a∈tb::ownA es,G a=none/\so.Nt a/\¬ Own sl σ a/\H a≠none)/\(tb::ownA es).Nodup
section
variable {K:PySem.W.Frag} {W:WX} {G G1 H H1:Hp} {so:So} {σ σ1:L2.St} {sl s1:DSt} {tb:Addr} {es:ES} {i:Nat} {v:V}
theorem Orph.step (o:Orph K G so σ H sl tb es) (p:PostS K G so σ H sl σ1 H1 G1 s1):Orph K G1 so σ1 H1 s1 tb es:=by
  obtain ⟨ents,h1,h2,h3,h4⟩:=o
  have same:∀ a∈tb::ownA es,H1 a=H a:=fun a m=>by
    obtain ⟨_,s,w,n⟩:=h3 a m
    obtain ⟨u,e⟩:=Option.ne_none_iff_exists'.mp n
    rw [p.keep a u e s w,e]
  refine ⟨ents,by rw [same _ (List.mem_cons_self ..)];exact h1,h2.keep p.ex (fun a m=>same a (List.mem_cons_of_mem _ m)),fun a m=>?_,h4⟩
  obtain ⟨g,s,w,n⟩:=h3 a m
  exact ⟨p.frm a n g s w,s,p.sub a n s w,by rw [same a m];exact n⟩
end
abbrev TGS:=(ES->DSt->Prop)->ES->DSt->Prop
structure OBase where
  G:Hp
  so:So
  σ:L2.St
  H:Hp
  sl:DSt
  tb:Addr
section
variable {K:PySem.W.Frag} {G H:Hp}
end
section
variable {X:Cx} {W:WX} {B:OBase} {st:Stmt} {rest:List Stmt} {t u:TGS} {td:TDS}
variable {i:Nat} {te tk:TD} {o key value:Expr} {pos pos':Pos}
end
abbrev SpWI:=List DV->(WSt->Prop)->Prop
section
variable {K:PySem.W.Frag} {W:WX} {G G1 H H1 H2:Hp} {so:So} {σ σ1:L2.St} {sl s1:DSt} {as:List Addr} {kd:Addr->Addr} {i:Nat} {x:Addr} {g:GR} {d:D}
end
section
variable {K:PySem.W.Frag} {G G2 H H2:Hp}
theorem EAll.tree (ex:Ex G G2):∀ {vs:List (Key × V)} {es:ES},(∀ a∈ownA es,∃ od u,H a=some u/\G2 a=some (.frz od u))->EAll K G H vs es->FAll K G2 vs (es.map fun p=>((.inr p.1:Key),D.dt p.2.2))
  | _,_,_,.nil=>.nil
  | _,_,h,.pub d r=>.cons (d.mono ex) (EAll.tree ex h r)
  | _,_,h,.own e f r=>by
    obtain ⟨od,u,e1,e2⟩:=h _ (List.mem_cons_self ..)
    rw [e] at e1;cases e1
    exact .cons (.dt e2 (f.mono ex)) (EAll.tree ex (fun a m=>h a (List.mem_cons_of_mem _ m)) r)
end
section
variable {X:Cx} {W:WX} {k i:Nat} {f CW w tb:Addr} {fd:FuncData} {ps:List Str} {sp:SpWI} {te:TD} {e:Expr} {nm y:Str} {p py pos spos:Pos} {rest:List Stmt} {u t:TDS} {n:Nat}
end
section
variable {prog:Program} {w:World} {K:Type} [DecidableEq K] {knd:KeyKind prog w K} {A:Around} {E:Value->Shared->Prop} {s:Shared}
end
section
variable {X:Cx} {W:WX} {k i:Nat} {f CW:Addr} {fd:FuncData} {ps:List Str} {sp:SpWI} {te:TD} {e:Expr} {nm y:Str} {p py pos spos:Pos} {rest:List Stmt} {u t:TDS} {n:Nat}
end
section
variable {X:Cx} {W:WX} {B:OBase} {i:Nat} {te tk:TD} {o key value:Expr} {pos pos':Pos} {tb:Addr}
end
end DL
namespace PySem
namespace HandSPX
section
variable {prog:Program} {w:World} {A:Around} {E:Value->Shared->Prop} {R:Result->Shared->Prop} {h:Heap} {g:Array GenState} {d:Drawn} {t:Nat} {os:OsState} {nm q:Str} {C N fI:Addr} {bs bm bmB rest:List Value} {hdct ab:Bool} {sn:List Str} {sub:List Value} {col:Option Bool} {dd:Option Addr} {k0 k1 k2 k3 k5:Option Value} {B newId initId:String} {kw:List (Str × Value)}
end
end HandSPX
end PySem
namespace DL
open PySem PySem.Spec PyProof.Rows L2
section
variable {prog:Program} {w:World} {A:Around} {R:Result->Shared->Prop} {s:Shared} {K:PySem.W.Frag} {mg mb:Str->Option Value} {file:Str} {C fI e t:Addr} {params:Arguments} {body:List Stmt} {scope:Scope} {B newId initId:String} {bmB:List Value} {self:Str} {ps:List Str} {fs:List (Str × (Str ⊕ Str))} {us:List Value} {vs:List V} {val:Str->V}
end
def ExV (a C d:Addr):HO:=.ext fun h=>∃ t,h.get? a=some (PySem.W.excObj C t (some d) .none)
section
variable {X:Cx} {file:Str} {C fI:Addr} {params:Arguments} {body:List Stmt} {scope:Scope} {B newId initId:String} {bmB:List Value} {self:Str} {ps:List Str} {fs:List (Str × (Str ⊕ Str))}
end
structure XcOk (K:PySem.W.Frag) (C:Addr):Prop where
  x:XfC K C
  no:∀ f∈errFields,PySem.W.findIn K (.ref C) f=some none
  ha:PySem.W.findIn K (.ref C) "__class__"=some (some (.builtin "object.__class__"))
  hn:PySem.W.specialIn K (.builtin "object.__class__") "__get__"=some (some (.builtin "getset_descriptor.__get__"))
  ht:PySem.W.takesIn K (.builtin "object.__class__")=some true
  hm:PySem.W.mroIn K C (.type "object")=some true
def ExIn (K:PySem.W.Frag) (G:Hp) (a C:Addr) (fs:List (Str × D)):Prop:=XcOk K C/\∃ d vs,G a=some (ExV a C d)/\G d=some (.xd vs)/\FAll K G vs fs
theorem ExIn.mono {K:PySem.W.Frag} {G G':Hp} {a C:Addr} {fs:List (Str × D)} (e:Ex G G'):ExIn K G a C fs->ExIn K G' a C fs:=fun ⟨h,d,vs,h1,h2,h3⟩=>⟨h,d,vs,e _ _ h1,e _ _ h2,h3.mono e⟩
abbrev XRow:=Addr × Addr × List (Str × D)
section
variable {K:PySem.W.Frag} {W:WX} {G G1 H H1:Hp} {so:So} {σ:L2.St} {sl s1:DSt}
end
section
variable {X:Cx} {W:WX} {C:Addr} {ps ks:List Str} {fs:List (Str × (Str ⊕ Str))} {n:Nat} {x:Str} {p pos:Pos} {e:Expr} {es:List Expr} {kws:List Keyword} {ta tk:TDA}
end
section
variable {K:PySem.W.Frag} {W:WX} {G G1 H H1:Hp} {so:So} {σ:L2.St} {sl s1:DSt} {i:Nat} {x:Addr} {g:GR} {y z:DV}
end
section
variable {X:Cx} {W:WX} {i j k:Nat} {x nm:Str} {e o ce:Expr} {es:List Expr} {p pos pos' lpos:Pos} {t:DSt->(List XRow->DSt->Prop)->Prop} {te:TD}
end
section
variable {X:Cx} {W:WX} {o o2 value key1 key2:Expr} {te:TD} {pos pos1 pos2 tpos:Pos} {i kt:Nat} {n1 n2:Int}
end
section
variable {K:PySem.W.Frag} {sl s1:DSt} {E:XP} {i j k n m:Nat} {p a C:Addr} {fs:List (Str × D)} {rows:List XRow} {r:XRow} {d:D} {b:Bool} {f:Str} {cv:Value} {Q:DV->DSt->Prop} {te:TD}
end
inductive FT where
  | leaf (d:D)
  | lst (a:Addr) (xs:List FT)
  | ins (a C:Addr) (fs:List (Str × FT))
mutual
def FT.as:FT->List Addr
  | .leaf _=>[]
  | .lst a xs=>a::FT.asL xs
  | .ins a _ fs=>a::FT.asF fs
def FT.asL:List FT->List Addr
  | []=>[]
  | x::r=>FT.as x++FT.asL r
def FT.asF:List (Str × FT)->List Addr
  | []=>[]
  | (_,x)::r=>FT.as x++FT.asF r
end
mutual
def FT.d:FT->D
  | .leaf d=>d
  | .lst _ xs=>.lst (FT.dL xs)
  | .ins _ C fs=>.ins C (FT.dF fs)
def FT.dL:List FT->List D
  | []=>[]
  | x::r=>FT.d x::FT.dL r
def FT.dF:List (Str × FT)->List (Str × D)
  | []=>[]
  | (f,x)::r=>(f,FT.d x)::FT.dF r
end
mutual
inductive FOk (K:PySem.W.Frag) (G H:Hp):V->FT->Prop
  | leaf {v:V} {d:D}:DOk K G v d->FOk K G H v (.leaf d)
  | lst {a:Addr} {vs:List V} {xs:List FT}:H a=some (.lst vs)->FOkL K G H vs xs->FOk K G H (.ref a) (.lst a xs)
  | ins {a C dx:Addr} {vs:List (Str × V)} {fs:List (Str × FT)}:H a=some (.ins C dx vs)->G dx=some (.own a)->FOkF K G H vs fs->FOk K G H (.ref a) (.ins a C fs)
inductive FOkL (K:PySem.W.Frag) (G H:Hp):List V->List FT->Prop
  | nil:FOkL K G H [] []
  | cons {v:V} {x:FT} {vs:List V} {xs:List FT}:FOk K G H v x->FOkL K G H vs xs->FOkL K G H (v::vs) (x::xs)
inductive FOkF (K:PySem.W.Frag) (G H:Hp):List (Str × V)->List (Str × FT)->Prop
  | nil:FOkF K G H [] []
  | cons {f:Str} {v:V} {x:FT} {vs:List (Str × V)} {fs:List (Str × FT)}:FOk K G H v x->FOkF K G H vs fs->FOkF K G H ((f,v)::vs) ((f,x)::fs)
end
section
variable {K:PySem.W.Frag} {G G' H H':Hp}
mutual
theorem FOk.keep (e:Ex G G'):∀ {v:V} {t:FT},(∀ a∈t.as,H' a=H a)->FOk K G H v t->FOk K G' H' v t
  | _,.leaf _,_,.leaf h=>.leaf (h.mono e)
  | .ref a,.lst _ _,k,.lst h r=>.lst (by rw [k a (by rw [FT.as];exact List.mem_cons_self ..)];exact h) (FOkL.keep e (fun b hb=>k b (by rw [FT.as];exact List.mem_cons_of_mem _ hb)) r)
  | .ref a,.ins _ _ _,k,.ins h g r=>.ins (by rw [k a (by rw [FT.as];exact List.mem_cons_self ..)];exact h) (e _ _ g) (FOkF.keep e (fun b hb=>k b (by rw [FT.as];exact List.mem_cons_of_mem _ hb)) r)
theorem FOkL.keep (e:Ex G G'):∀ {vs:List V} {ts:List FT},(∀ a∈FT.asL ts,H' a=H a)->FOkL K G H vs ts->FOkL K G' H' vs ts
  | _,_,_,.nil=>.nil
  | _,_,k,.cons h r=>.cons (FOk.keep e (fun b hb=>k b (by rw [FT.asL];exact List.mem_append_left _ hb)) h) (FOkL.keep e (fun b hb=>k b (by rw [FT.asL];exact List.mem_append_right _ hb)) r)
theorem FOkF.keep (e:Ex G G'):∀ {vs:List (Str × V)} {fs:List (Str × FT)},(∀ a∈FT.asF fs,H' a=H a)->FOkF K G H vs fs->FOkF K G' H' vs fs
  | _,_,_,.nil=>.nil
  | _,_,k,.cons h r=>.cons (FOk.keep e (fun b hb=>k b (by rw [FT.asF];exact List.mem_append_left _ hb)) h) (FOkF.keep e (fun b hb=>k b (by rw [FT.asF];exact List.mem_append_right _ hb)) r)
end
mutual
theorem FOk.pub (e:Ex G G'):∀ {v:V} {t:FT},(∀ a∈t.as,G' a=H a)->FOk K G H v t->DOk K G' v t.d
  | _,.leaf _,_,.leaf h=>by rw [FT.d];exact h.mono e
  | .ref a,.lst _ _,k,.lst h r=>by
    rw [FT.d]
    exact .lst (by rw [k a (by rw [FT.as];exact List.mem_cons_self ..)];exact h) (FOkL.pub e (fun b hb=>k b (by rw [FT.as];exact List.mem_cons_of_mem _ hb)) r)
  | .ref a,.ins _ _ _,k,.ins h g r=>by
    rw [FT.d]
    exact .ins (by rw [k a (by rw [FT.as];exact List.mem_cons_self ..)];exact h) (e _ _ g) (FOkF.pub e (fun b hb=>k b (by rw [FT.as];exact List.mem_cons_of_mem _ hb)) r)
theorem FOkL.pub (e:Ex G G'):∀ {vs:List V} {ts:List FT},(∀ a∈FT.asL ts,G' a=H a)->FOkL K G H vs ts->DAll K G' vs (FT.dL ts)
  | _,_,_,.nil=>by rw [FT.dL];exact .nil
  | _,_,k,.cons h r=>by
    rw [FT.dL]
    exact .cons (FOk.pub e (fun b hb=>k b (by rw [FT.asL];exact List.mem_append_left _ hb)) h) (FOkL.pub e (fun b hb=>k b (by rw [FT.asL];exact List.mem_append_right _ hb)) r)
theorem FOkF.pub (e:Ex G G'):∀ {vs:List (Str × V)} {fs:List (Str × FT)},(∀ a∈FT.asF fs,G' a=H a)->FOkF K G H vs fs->FAll K G' vs (FT.dF fs)
  | _,_,_,.nil=>by rw [FT.dF];exact .nil
  | _,_,k,.cons h r=>by
    rw [FT.dF]
    exact .cons (FOk.pub e (fun b hb=>k b (by rw [FT.asF];exact List.mem_append_left _ hb)) h) (FOkF.pub e (fun b hb=>k b (by rw [FT.asF];exact List.mem_append_right _ hb)) r)
end
abbrev LiA (H:Hp) (a:Addr):Prop:=(∃ vs,H a=some (.lst vs))\/∃ C dx vs,H a=some (.ins C dx vs)
mutual
theorem FOk.li:∀ {v:V} {t:FT},FOk K G H v t->∀ a∈t.as,LiA H a
  | _,_,.leaf _,a,m=>by rw [FT.as] at m;cases m
  | _,_,.lst h r,b,m=>by
    rw [FT.as] at m
    rcases List.mem_cons.mp m with m | m
    · subst m;exact .inl ⟨_,h⟩
    · exact FOkL.li r b m
  | _,_,.ins h _ r,b,m=>by
    rw [FT.as] at m
    rcases List.mem_cons.mp m with m | m
    · subst m;exact .inr ⟨_,_,_,h⟩
    · exact FOkF.li r b m
theorem FOkL.li:∀ {vs:List V} {ts:List FT},FOkL K G H vs ts->∀ a∈FT.asL ts,LiA H a
  | _,_,.nil,a,m=>by rw [FT.asL] at m;cases m
  | _,_,.cons h r,b,m=>by
    rw [FT.asL] at m
    rcases List.mem_append.mp m with m | m
    · exact FOk.li h b m
    · exact FOkL.li r b m
theorem FOkF.li:∀ {vs:List (Str × V)} {fs:List (Str × FT)},FOkF K G H vs fs->∀ a∈FT.asF fs,LiA H a
  | _,_,.nil,a,m=>by rw [FT.asF] at m;cases m
  | _,_,.cons h r,b,m=>by
    rw [FT.asF] at m
    rcases List.mem_append.mp m with m | m
    · exact FOk.li h b m
    · exact FOkF.li r b m
end
theorem LiA.there {a:Addr} (h:LiA H a):H a≠none:=by
  rcases h with ⟨_,e⟩ | ⟨_,_,_,e⟩<;>(rw [e];simp)
theorem FOkL.len:∀ {vs:List V} {ts:List FT},FOkL K G H vs ts->vs.length=ts.length
  | _,_,.nil=>rfl
  | _,_,.cons _ r=>congrArg (· + 1) r.len
theorem FOkL.app:∀ {vs ws:List V} {ds es:List FT},FOkL K G H vs ds->FOkL K G H ws es->FOkL K G H (vs++ws) (ds++es)
  | _,_,_,_,.nil,s=>s
  | _,_,_,_,.cons h t,s=>.cons h (FOkL.app t s)
theorem FOkL.leaves:∀ {vs:List V} {ds:List D},DAll K G vs ds->FOkL K G H vs (ds.map .leaf)
  | _,_,.nil=>.nil
  | _,_,.cons h t=>.cons (.leaf h) (FOkL.leaves t)
end
theorem adZ:∀ (ds:List D),FT.asL (ds.map .leaf)=[]
  | []=>by rw [List.map_nil,FT.asL]
  | d::r=>by rw [List.map_cons,FT.asL,FT.as,adZ r];rfl
theorem ahK:∀ (ds:List D),FT.dL (ds.map .leaf)=ds
  | []=>by rw [List.map_nil,FT.dL]
  | d::r=>by rw [List.map_cons,FT.dL,FT.d,ahK r]
theorem acq:∀ (xs ys:List FT),FT.asL (xs++ys)=FT.asL xs++FT.asL ys
  | [],ys=>by rw [FT.asL];rfl
  | x::r,ys=>by rw [List.cons_append,FT.asL,FT.asL,acq r ys,List.append_assoc]
abbrev TDN:=DSt->(FT->DSt->Prop)->XP->Prop
structure PostN (K:PySem.W.Frag) (G:Hp) (so:So) (σ:L2.St) (H:Hp) (sl:DSt) (v:V) (H' G':Hp) (t:FT) (sl':DSt):Prop extends Post K G so σ H sl H' G' sl' where
  ok:FOk K G' H' v t
  nod:t.as.Nodup
  own:∀ a∈t.as,so.Nt a/\G' a=none/\¬ Own sl' σ a
  new:∀ a∈t.as,H a=none\/Own sl σ a
  bor:∀ a∈t.as,∀ (i:Nat) (o:OO),sl'[i]?=some (some (.bor o))->σ[i]?=some (some (.ref a))->False
def upN (K:PySem.W.Frag) (W:WX) (t:TDN):TE:=fun σ H R=>∃ G so sl Q E,Rep K G so σ H sl/\t sl Q E/\(∀ v H' G' x sl',PostN K G so σ H sl v H' G' x sl'->Q x sl'->R v H')/\XOk K W G so σ H sl E
def DN (X:Cx) (W:WX) (e:Expr) (t:TDN):Prop:=PE X e (upN X.K W t)
def dNown (te:TD):TDN:=fun sl Q E=>te sl (fun x s=>∃ ds,x=.own (.lst ds)/\∀ a,Q (.lst a (ds.map .leaf)) s) E
def dNleaf (te:TD):TDN:=fun sl Q E=>te sl (fun x s=>∃ d,x=.d d/\Q (.leaf d) s) E
section
variable {X:Cx} {W:WX} {e:Expr} {te:TD}
theorem amr (h:DE X W e te):DN X W e (dNown te):=aaD h fun σ H R ⟨G,so,sl,Q,E,rep,q,hq,hx⟩=>⟨G,so,sl,_,E,rep,q,fun v H' G' dv s p ⟨ds,ed,z⟩=>by
  subst ed
  obtain ⟨a,rfl,g,s1,vs,e1,al⟩:=p.val
  have sa:=p.sepv a _ (.inl rfl) rfl
  have m:∀ b∈(FT.lst a (ds.map .leaf)).as,b=a:=fun b m=>by
    rw [FT.as,adZ] at m;exact List.mem_singleton.mp m
  exact hq _ H' G' _ s { p.toPost with ok:=.lst e1 (FOkL.leaves al),nod:=by rw [FT.as,adZ];simp,own:=fun b hb=>by rw [m b hb];exact ⟨s1,g,sa⟩,new:=fun b hb=>by rw [m b hb];exact p.new a _ rfl rfl,bor:=fun b hb i o e1 e2=>by rw [m b hb] at e2;exact p.nbs a _ i o rfl rfl e1 e2 } (z a),hx⟩
theorem agT (h:DE X W e te):DN X W e (dNleaf te):=aaD h fun σ H R ⟨G,so,sl,Q,E,rep,q,hq,hx⟩=>⟨G,so,sl,_,E,rep,q,fun v H' G' dv s p ⟨d,ed,z⟩=>by
  subst ed
  have m:∀ b,b∉(FT.leaf d).as:=fun b m=>by rw [FT.as] at m;cases m
  exact hq v H' G' _ s { p.toPost with ok:=.leaf p.val,nod:=by rw [FT.as];exact .nil,own:=fun b hb=>absurd hb (m b),new:=fun b hb=>absurd hb (m b),bor:=fun b hb=>absurd hb (m b) } z,hx⟩
end
structure NstN (K:PySem.W.Frag) (G H:Hp) (so:So) (sl0 sl:DSt) (σ:L2.St) (H1:Hp) (C:Addr) (us:List V) (ts:List FT):Prop where
  ok:FOkL K G H us ts
  own:∀ a∈FT.asL ts,so.Nt a/\G a=none/\a≠C/\¬ Own sl σ a
  new:∀ a∈FT.asL ts,H1 a=none\/Own sl0 σ a
  nd:(FT.asL ts).Nodup
section
variable {K:PySem.W.Frag} {G G' H H' H1:Hp} {so:So} {sl0 sl sl':DSt} {σ:L2.St} {C:Addr} {us:List V} {ts:List FT}
theorem NstN.there (h:NstN K G H so sl0 sl σ H1 C us ts) (a:Addr) (m:a∈FT.asL ts):H a≠none:=by
  exact (FOkL.li h.ok a m).there
theorem NstN.step (h:NstN K G H so sl0 sl σ H1 C us ts) (e:Ex G G') (k:∀ a o,H a=some o->so.Nt a->H' a=some o) (f:∀ a,H a≠none->G a=none->so.Nt a->¬ Own sl σ a->G' a=none) (s:∀ a,Own sl' σ a->Own sl σ a):NstN K G' H' so sl0 sl' σ H1 C us ts:=
  ⟨h.ok.keep e (fun a m=>aby k (h.there a m) (h.own a m).1),fun a m=>by
    obtain ⟨m1,m2,m3,m4⟩:=h.own a m
    exact ⟨m1,f _ (h.there a m) m2 m1 m4,m3,fun z=>m4 (s _ z)⟩,h.new,h.nd⟩
theorem NstN.add {v:V} {t:FT} {u:HO} (h:NstN K G H so sl0 sl σ H1 C us ts) (ni:∀ a∈FT.asL ts,a∉t.as) (ok:FOk K G H v t) (nt:t.as.Nodup) (ow:∀ a∈t.as,a≠C/\so.Nt a/\G a=none/\(H1 a=none\/Own sl0 σ a)/\¬ Own sl σ a) :
    NstN K G (upd H C u) so sl0 sl σ H1 C (us++[v]) (ts++[t]):=by
  have e1:FT.asL (ts++[t])=FT.asL ts++t.as:=by rw [acq,FT.asL,FT.asL,List.append_nil]
  refine ⟨?_,fun a m=>?_,fun a m=>?_,?_⟩
  · refine FOkL.keep (Ex.refl G) (fun b m=>upd_ne ?_) (h.ok.app (.cons ok .nil))
    rw [e1] at m
    rcases List.mem_append.mp m with m | m
    · exact (h.own b m).2.2.1
    · exact (ow b m).1
  · rw [e1] at m
    rcases List.mem_append.mp m with m | m
    · exact h.own a m
    · obtain ⟨o1,o2,o3,o4,o5⟩:=ow a m
      exact ⟨o2,o3,o1,o5⟩
  · rw [e1] at m
    rcases List.mem_append.mp m with m | m
    · exact h.new a m
    · exact (ow a m).2.2.2.1
  · rw [e1]
    exact List.nodup_append.mpr ⟨h.nd,nt,fun x hx y hy z=>ni x hx (z ▸ hy)⟩
end
def apt (g:TDG) (tt:TDT) (te:TDN) (vs:List Nat) (Q:List FT->DSt->Prop):List D->List FT->DSt->Prop
  | [],acc,sl=>Q acc sl
  | d::r,acc,sl=>g d sl fun s1=>tt s1 (fun b s2=>Br b (te s2 (fun t s3=>acc.length < szl/\apt g tt te vs Q r (acc++[t]) (wipeD s3 vs)) fun _ _ _=>False) (apt g tt te vs Q r acc (wipeD s2 vs))) fun _ _ _=>False
@[irreducible] def dLcW (g:TDG) (tt:TDT) (te:TDN) (vs:List Nat) (Q:List FT->DSt->Prop) (ds:List D) (acc:List FT) (sl:DSt):Prop:=apt g tt te vs Q ds acc sl
theorem alT {g:TDG} {tt:TDT} {te:TDN} {vs:List Nat} {Q:List FT->DSt->Prop} {acc:List FT} {sl:DSt}:dLcW g tt te vs Q [] acc sl=Q acc sl:=by unfold dLcW;rfl
theorem akt {g:TDG} {tt:TDT} {te:TDN} {vs:List Nat} {Q:List FT->DSt->Prop} {d:D} {r:List D} {acc:List FT} {sl:DSt}:dLcW g tt te vs Q (d::r) acc sl=g d sl fun s1=>tt s1 (fun b s2=>Br b (te s2 (fun t s3=>acc.length < szl/\dLcW g tt te vs Q r (acc++[t]) (wipeD s3 vs)) fun _ _ _=>False) (dLcW g tt te vs Q r acc (wipeD s2 vs))) fun _ _ _=>False:=by unfold dLcW;rfl
section
variable {W:WX} {vs0:List Nat} {ti:TDI} {g:TDG} {tt:TDT} {te:TDN} {ix:List Nat}
theorem apx {K:PySem.W.Frag} {n:Nat} {g':TG} {σ:L2.St} {H G:Hp} {so:So} {sl:DSt} {E:XP} {Q:List FT->DSt->Prop} {R:VK} (vs:List Nat) (hl:σ.length=n) (sg:GSem K n ix g' g) (hix:∀ j,j∈ix->j∈vs) (rep:Rep K G so σ H sl)
    (q:ti sl (fun ds s1=>dLcW g tt te vs Q ds [] (wipeD s1 vs)) E) (hx:XOk K W G so σ H sl E)
    (hq:∀ (C:Addr) (H' G':Hp) (sl':DSt) (us:List V) (ts:List FT),Post K G so σ H sl H' G' sl'->H C=none->so.Nt C->H' C=some (.lst us)->G' C=none->FOkL K G' H' us ts->(∀ a∈FT.asL ts,so.Nt a/\G' a=none/\a≠C/\¬ Own sl' σ a)->(∀ a∈FT.asL ts,H a=none\/Own sl σ a)->(FT.asL ts).Nodup->Q ts sl'->R (.ref C) H') :
    tLc (upI K W ti) g' (upT K W0 tt) (upN K W0 te) vs σ H R:=by
  refine ⟨G,so,sl,_,E,rep,q,fun J H1 G1 ds s1 p0 it q1=>?_,hx⟩
  obtain ⟨ps,prot,goes,stops,yields⟩:=it
  intro C hC
  have nsC:so.Nt C:=p0.rep.h.there hC
  have rw1:=p0.rep.wipe vs
  have psC:∀ a∈ps,a≠C:=fun a ha z=>(prot a ha).1 (z ▸ hC)
  refine ⟨fun i m H'=>m=ds.length - i/\i<=ds.length/\∃ G' sl' us ts,Post K G1 so (L2.wipe σ vs) H1 (wipeD s1 vs) H' G' sl'/\H' C=some (.lst us)/\G' C=none/\NstN K G' H' so (wipeD s1 vs) sl' (L2.wipe σ vs) H1 C us ts/\dLcW g tt te vs Q (ds.drop i) ts sl',
    ⟨ds.length,by simp,Nat.zero_le _,G1,_,[],[],?_,upd_same,p0.rep.h.ex.free hC,⟨.nil,fun a m=>(by rw [FT.asL] at m;cases m),fun a m=>(by rw [FT.asL] at m;cases m),(by rw [FT.asL];exact .nil)⟩,q1⟩,?_⟩
  · have pv:=PostV.list (K:=K) (G:=G1) (so:=so) (ds:=[]) rw1.h hC .nil
    exact (pv.slots rw1).toPost
  rintro i m H' ⟨rfl,hi,G',sl',us,qs,t,hCl,gC,al,q2⟩
  have same:∀ a∈ps,H' a=H1 a:=fun a ha=>by
    obtain ⟨n1,s,w⟩:=prot a ha
    exact aby t.keep n1 s
  have noC:∀ {sl'':DSt} {σ'':L2.St},(∀ a,Own sl'' σ'' a->Own (wipeD s1 vs) (L2.wipe σ vs) a)->¬ Own sl'' σ'' C:=fun f z=>(p0.rep.nown (aba (f C z))).1 hC
  have borC:∀ (j:Nat) (o:OO),(wipeD s1 vs)[j]?=some (some (.bor o))->(L2.wipe σ vs)[j]?=some (some (.ref C))->False:=fun j o e1 e2=>by
    obtain ⟨v,f1,f2⟩:=rw1.slots j _ e1
    rw [e2] at f1;cases f1
    obtain ⟨b,z,_,k⟩:=f2
    cases z
    exact k.there hC
  by_cases hlt:i < ds.length
  · refine .inr ⟨goes i H' hlt same,fun H''=>∃ G'' sl'' us' ts',Post K G1 so (L2.wipe σ vs) H1 (wipeD s1 vs) H'' G'' sl''/\H'' C=some (.lst us')/\G'' C=none/\NstN K G'' H'' so (wipeD s1 vs) sl'' (L2.wipe σ vs) H1 C us' ts'/\dLcW g tt te vs Q (ds.drop (i + 1)) ts' sl'',
      fun H'' ⟨G'',sl'',us',acc',h1,h2,h3,h4,h5⟩=>⟨ds.length - (i + 1),by omega,rfl,hlt,G'',sl'',us',acc',h1,h2,h3,h4,h5⟩,fun x H2 y=>?_⟩
    obtain ⟨d,G2,ed,pv⟩:=yields i H' x H2 G' same t.ex t.rep.h y hlt
    have pe:=pv.slots t.rep
    have C2:H2 C=some (.lst us):=pe.keep C _ hCl nsC
    have g2:G2 C=none:=pe.frm C (by rw [hCl];simp) gC nsC (noC t.sub)
    rw [List.drop_eq_getElem_cons hlt] at q2
    have ed':ds[i]=d:=by rw [List.getElem?_eq_getElem hlt] at ed;exact Option.some.inj ed
    rw [ed',akt] at q2
    refine sg G2 so _ H2 sl' x d _ _ ((wipe_length σ vs).trans hl) pe.rep pe.val q2 fun σ3 sl3 t3 u3 q3=>?_
    have e3:L2.wipe σ3 vs=L2.wipe σ vs:=by
      rw [<- ahx (σ:=σ) vs]
      exact aju t3.ln fun j hj=>(u3 j fun z=>hj (hix j z)).1
    have sub3:∀ a,Own (wipeD sl3 vs) (L2.wipe σ3 vs) a->Own (wipeD s1 vs) (L2.wipe σ vs) a:=fun a z=>by
      rw [e3] at z
      by_cases w:Own sl' (L2.wipe σ vs) a
      · exact t.sub a w
      · obtain ⟨j,o,z1,z2⟩:=z
        have z2':σ3[j]?=some (some (.ref a)):=by
          rw [<- e3] at z2;exact (wipe_some z2).1
        have ow3:Own sl3 σ3 a:=⟨j,o,(aal z1).1,z2'⟩
        obtain ⟨n1,g1,s1'⟩:=t3.rep.nown ow3
        exact absurd ow3 (t3.sub a n1 s1' w)
    have sub3':∀ a,Own sl3 σ3 a->Own sl' (L2.wipe σ vs) a:=fun a z=>by
      by_cases w:Own sl' (L2.wipe σ vs) a
      · exact w
      · obtain ⟨n1,g1,s1'⟩:=t3.rep.nown z
        exact absurd z (t3.sub a n1 s1' w)
    have bs3:∀ (j:Nat) (o:OO),sl3[j]?=some (some (.bor o))->j∉vs->∃ o',(wipeD s1 vs)[j]?=some (some (.bor o')):=fun j o e n=>by
      rw [(u3 j fun z=>n (hix j z)).2] at e
      exact t.bsub j o e
    refine ⟨e3,G2,so,sl3,_,fun _ _ _=>False,t3.rep,q3,fun b H4 G4 s4 p4 q4=>?_,fun _ _ _ _ _ _ _ _ z=>z⟩
    have C4:H4 C=some (.lst us):=p4.keep C _ C2 nsC
    have n3C:¬ Own sl3 σ3 C:=fun z=>noC t.sub (sub3' C z)
    have g4:G4 C=none:=p4.frm C (by rw [C2];simp) g2 nsC n3C
    have k4:∀ a o,H1 a=some o->so.Nt a->H4 a=some o:=fun a o e s=>p4.keep a o (pe.keep a o (t.keep a o e s) s) s
    have f4:∀ a,H1 a≠none->G1 a=none->so.Nt a->¬ Own (wipeD s1 vs) (L2.wipe σ vs) a->G4 a=none:=fun a n1 g1 s w=>by
      have n2:¬ Own sl' (L2.wipe σ vs) a:=fun z=>w (t.sub a z)
      have h':H' a≠none:=by rw [aby t.keep n1 s];exact n1
      have h2:H2 a≠none:=by rw [aby pe.keep h' s];exact h'
      exact p4.frm a h2 (pe.frm a h' (t.frm a n1 g1 s w) s n2) s fun z=>n2 (sub3' a z)
    have bs4:∀ (j:Nat) (o:OO),s4[j]?=some (some (.bor o))->j∉vs->∃ o',(wipeD s1 vs)[j]?=some (some (.bor o')):=fun j o e n=>by
      obtain ⟨o1,e1⟩:=p4.bsub j o e
      exact bs3 j o1 e1 n
    cases b with
    | false=>
      refine iteF ⟨G4,wipeD s4 vs,us,qs,⟨t.ex.trans (pe.ex.trans p4.ex),?_,k4,f4,fun a z=>?_,fun j o e=>bs4 j o (aal e).1 (aal e).2⟩,C4,g4,al.step (pe.ex.trans p4.ex) (fun a o e s=>p4.keep a o (pe.keep a o e s) s) (fun a n g s w=>p4.frm a (by rw [aby pe.keep n s];exact n) (pe.frm a n g s w) s fun z=>w (sub3' a z)) (fun a z=>sub3' a (p4.sub a (aba (vs:=vs) (by rw [e3];exact z)))),(brf q4)⟩
      · have r:=p4.rep.wipe vs;rw [e3] at r;exact r
      · refine t.sub a (sub3' a (p4.sub a (aba (vs:=vs) ?_)))
        rw [e3];exact z
    | true=>
      refine iteT ⟨G4,so,s4,_,fun _ _ _=>False,p4.rep,(brt q4),fun y H5 G6 tN s5 p5 q5=>?_,fun _ _ _ _ _ _ _ _ z=>z⟩
      have n4C:¬ Own s4 σ3 C:=fun z=>n3C (p4.sub C z)
      have C5:H5 C=some (.lst us):=p5.keep C _ C4 nsC
      have g5:G6 C=none:=p5.frm C (by rw [C4];simp) g4 nsC n4C
      have k5:∀ a o,H1 a=some o->so.Nt a->H5 a=some o:=fun a o e s=>p5.keep a o (k4 a o e s) s
      have f5:∀ a,H1 a≠none->G1 a=none->so.Nt a->¬ Own (wipeD s1 vs) (L2.wipe σ vs) a->G6 a=none:=fun a n1 g1 s w=>by
        have n2:¬ Own sl' (L2.wipe σ vs) a:=fun z=>w (t.sub a z)
        have h4:H4 a≠none:=by rw [aby k4 n1 s];exact n1
        exact p5.frm a h4 (f4 a n1 g1 s w) s fun z=>n2 (sub3' a (p4.sub a z))
      have bs5:∀ (j:Nat) (o:OO),s5[j]?=some (some (.bor o))->j∉vs->∃ o',(wipeD s1 vs)[j]?=some (some (.bor o')):=fun j o e n=>by
        obtain ⟨o1,e1⟩:=p5.bsub j o e
        exact bs4 j o1 e1 n
      have sub5:∀ b,Own (wipeD s5 vs) (L2.wipe σ vs) b->Own sl' (L2.wipe σ vs) b:=fun b z=>sub3' b (p4.sub b (p5.sub b (aba (vs:=vs) (by rw [e3];exact z))))
      have nwa:∀ w∈tN.as,H4 w=none\/Own s4 σ3 w:=p5.new
      have aC:∀ w∈tN.as,w≠C:=fun w m z=>by
        subst z
        rcases nwa w m with n | n
        · rw [C4] at n;cases n
        · exact n4C n
      have al5:NstN K G6 H5 so (wipeD s1 vs) (wipeD s5 vs) (L2.wipe σ vs) H1 C us qs:=al.step (pe.ex.trans (p4.ex.trans p5.ex)) (fun a o e s=>p5.keep a o (p4.keep a o (pe.keep a o e s) s) s)
        (fun b n g s y=>by
          have h2:H2 b≠none:=by rw [aby pe.keep n s];exact n
          have h4:H4 b≠none:=by rw [aby p4.keep h2 s];exact h2
          exact p5.frm b h4 (p4.frm b h2 (pe.frm b n g s y) s fun z=>y (sub3' b z)) s fun z=>y (sub3' b (p4.sub b z))) sub5
      have fra:∀ w∈tN.as,H1 w=none\/Own (wipeD s1 vs) (L2.wipe σ vs) w:=fun w m=>by
        rcases nwa w m with n | n
        · cases q:H1 w with
          | none=>exact .inl rfl
          | some o=>rw [k4 w o q (p5.own w m).1] at n;cases n
        · exact .inr (t.sub w (sub3' w (p4.sub w n)))
      have nia:∀ a∈FT.asL qs,a∉tN.as:=fun a ha m=>by
        obtain ⟨m1,m2,m3,m4⟩:=al.own a ha
        have hb:H' a≠none:=al.there a ha
        have h2:H2 a≠none:=by rw [aby pe.keep hb m1];exact hb
        have h4:H4 a≠none:=by rw [aby p4.keep h2 m1];exact h2
        rcases nwa a m with n | n
        · exact h4 n
        · exact m4 (sub3' a (p4.sub a n))
      have lu:us.length=qs.length:=al5.ok.len
      refine ⟨us,C5,by rw [lu,<- acM];exact q5.1,G6,wipeD s5 vs,us++[y],qs++[tN],⟨t.ex.trans (pe.ex.trans (p4.ex.trans p5.ex)),?_,fun a o e s=>?_,f5,fun a z=>?_,fun j o e=>bs5 j o (aal e).1 (aal e).2⟩,upd_same,g5,al5.add nia p5.ok p5.nod fun w m=>⟨aC w m,(p5.own w m).1,(p5.own w m).2.1,fra w m,fun z=>(p5.own w m).2.2 (aba (vs:=vs) (by rw [e3];exact z))⟩,q5.2⟩
      · have r:=p5.rep.wipe vs
        rw [e3] at r
        refine ⟨⟨fun a o e=>?_,fun a k e=>?_,r.h.ok,aea r.h.tp (by intro _ z;cases z)⟩,r.len,fun j dv e=>?_,r.sep,r.bor,r.nse⟩
        · rw [upd_ne (ne_of_none e g5)];exact r.h.ex a o e
        · exact (r.h.vol a k e).keep (Ex.refl _) (r.h.vol a k e).g (upd_ne fun z=>nsC (z ▸ ⟨k,e⟩))
        · obtain ⟨v,f1,f2⟩:=r.slots j dv e
          refine ⟨v,f1,?_⟩
          have key:∀ a:Addr,a≠C->(upd H5 C (.lst (us++[y]))) a=H5 a:=fun a z=>upd_ne z
          cases dv with
          | d z=>exact f2
          | src=>exact f2
          | own o=>
            obtain ⟨a,r1,r2,r3,r4⟩:=f2
            subst r1
            have z:a≠C:=fun z=>by
              subst z
              exact noC (fun a z=>t.sub a (sub3' a (p4.sub a (p5.sub a (aba (vs:=vs) (by rw [e3];exact z)))))) ⟨j,o,e,f1⟩
            exact ⟨a,rfl,r2,r3,r4.keep (Ex.refl _) (key a z)⟩
          | bor o=>
            obtain ⟨a,r1,r3,r4⟩:=f2
            subst r1
            have z:a≠C:=fun z=>by
              subst z
              obtain ⟨o1,z1⟩:=bs5 j o (aal e).1 (aal e).2
              exact borC j o1 z1 f1
            exact ⟨a,rfl,r3,r4.keep (Ex.refl _) (key a z)⟩
          | see o=>exact absurd e (r.nse j o)
          | mu y D gs=>exact SlOk.muU f2 (Ex.refl _) nsC
          | gh _ _=>exact SlOk.ghU f2 (Ex.refl _) nsC
      · rw [upd_ne (fun z=>by subst z;rw [hC] at e;cases e)];exact k5 a o e s
      · exact t.sub a (sub3' a (p4.sub a (p5.sub a (aba (vs:=vs) (by rw [e3];exact z)))))
  · have e:i=ds.length:=by omega
    subst e
    rw [List.drop_length,alT] at q2
    refine .inl ⟨stops H' same,hq C H' G' sl' us qs ?_ (p0.back hC) nsC hCl gC ?_ ?_ ?_ ?_ q2⟩
    · exact p0.trans (t.unwipe p0.rep)
    · exact al.ok
    · intro a ha
      obtain ⟨m1,m2,m3,m4⟩:=al.own a ha
      refine ⟨m1,m2,m3,fun z=>m4 ?_⟩
      obtain ⟨j,o,z1,z2⟩:=z
      obtain ⟨v,f1,f2⟩:=t.rep.slots j _ z1
      exact ⟨j,o,z1,by rw [f1,<- (wipe_some f1).1,z2]⟩
    · intro a ha
      rcases al.new a ha with n | n
      · exact .inl (p0.back n)
      · exact .inr (p0.sub _ (aba n))
    · exact al.nd
end
abbrev Fl:=List FT
theorem aaq (t:FT) (r:Fl):FT.asL (t::r)=t.as++FT.asL r:=by rw [FT.asL]
theorem ae2:FT.asL []=[]:=by rw [FT.asL]
structure FlOk (K:PySem.W.Frag) (G:Hp) (so:So) (σ:L2.St) (H:Hp) (sl:DSt) (fl:Fl):Prop where
  ok:∃ vs,FOkL K G H vs fl
  nod:(FT.asL fl).Nodup
  own:∀ a∈FT.asL fl,so.Nt a/\G a=none/\¬ Own sl σ a
structure PostF (K:PySem.W.Frag) (G:Hp) (so:So) (σ:L2.St) (H:Hp) (sl:DSt) (fl:Fl) (σ':L2.St) (H' G':Hp) (sl':DSt) (fl':Fl):Prop where
  ex:Ex G G'
  rep:Rep K G' so σ' H' sl'
  flo:FlOk K G' so σ' H' sl' fl'
  keep:∀ a o,H a=some o->so.Nt a->¬ Own sl σ a->a∉FT.asL fl->H' a=some o
  frm:∀ a,H a≠none->G a=none->so.Nt a->¬ Own sl σ a->a∉FT.asL fl->G' a=none
  sub:∀ a,H a≠none->so.Nt a->¬ Own sl σ a->a∉FT.asL fl->¬ Own sl' σ' a/\a∉FT.asL fl'
  ln:σ'.length=σ.length
structure PostFE (K:PySem.W.Frag) (G:Hp) (so:So) (σ:L2.St) (H:Hp) (sl:DSt) (fl:Fl) (v:V) (H' G':Hp) (t:FT) (sl':DSt) (fl':Fl):Prop extends PostF K G so σ H sl fl σ H' G' sl' (t::fl') where
  val:FOk K G' H' v t
structure PostFR (K:PySem.W.Frag) (G:Hp) (so:So) (σ:L2.St) (H:Hp) (sl:DSt) (fl:Fl) (v:V) (H' G':Hp) (t:FT) (fl':Fl):Prop where
  ex:Ex G G'
  hrep:HRep K G' so H'
  keep:∀ a o,H a=some o->so.Nt a->¬ Own sl σ a->a∉FT.asL fl->H' a=some o
  frm:∀ a,H a≠none->G a=none->so.Nt a->¬ Own sl σ a->a∉FT.asL fl->G' a=none
  val:FOk K G' H' v t
  ok:∃ vs,FOkL K G' H' vs (t::fl')
  nod:(FT.asL (t::fl')).Nodup
  own:∀ a∈FT.asL (t::fl'),so.Nt a/\G' a=none
  new:∀ a∈FT.asL (t::fl'),H a=none\/Own sl σ a\/a∈FT.asL fl
section
variable {K:PySem.W.Frag} {W:WX} {G G1 G2:Hp} {so:So} {σ σ1 σ2:L2.St} {H H1 H2:Hp} {sl s1 s2:DSt} {fl f1 f2:Fl} {v:V} {t:FT}
theorem FlOk.nil:FlOk K G so σ H sl []:=⟨⟨[],.nil⟩,by rw [ae2];exact .nil,fun a m=>by rw [ae2] at m;cases m⟩
theorem FlOk.there (h:FlOk K G so σ H sl fl) {a:Addr} (m:a∈FT.asL fl):H a≠none:=by
  obtain ⟨vs,k⟩:=h.ok
  exact (FOkL.li k a m).there
theorem FlOk.tail (h:FlOk K G so σ H sl (t::fl)):FlOk K G so σ H sl fl:=by
  obtain ⟨vs,k⟩:=h.ok
  have n:=h.nod
  rw [aaq] at n
  refine ⟨?_,(List.nodup_append.mp n).2.1,fun a m=>h.own a (by rw [aaq];exact List.mem_append_right _ m)⟩
  cases k with
  | cons _ r=>exact ⟨_,r⟩
theorem FlOk.keep (h:FlOk K G so σ H sl fl) (e:Ex G G1) (k:∀ a∈FT.asL fl,H1 a=H a) (g:∀ a∈FT.asL fl,G1 a=none) (w:∀ a∈FT.asL fl,¬ Own s1 σ1 a):FlOk K G1 so σ1 H1 s1 fl:=by
  obtain ⟨vs,q⟩:=h.ok
  exact ⟨⟨vs,q.keep e k⟩,h.nod,fun a m=>⟨(h.own a m).1,g a m,w a m⟩⟩
theorem PostF.refl (r:Rep K G so σ H sl) (h:FlOk K G so σ H sl fl):PostF K G so σ H sl fl σ H G sl fl:=⟨Ex.refl G,r,h,fun _ _ e _ _ _=>e,fun _ _ g _ _ _=>g,fun _ _ _ w z=>⟨w,z⟩,rfl⟩
theorem PostF.trans (a:PostF K G so σ H sl fl σ1 H1 G1 s1 f1) (b:PostF K G1 so σ1 H1 s1 f1 σ2 H2 G2 s2 f2):PostF K G so σ H sl fl σ2 H2 G2 s2 f2:=
  ⟨a.ex.trans b.ex,b.rep,b.flo,fun c o e s w z=>by
    obtain ⟨w1,z1⟩:=a.sub c (by rw [e];simp) s w z
    exact b.keep c o (a.keep c o e s w z) s w1 z1,fun c n g s w z=>by
    obtain ⟨o,e⟩:=Option.ne_none_iff_exists'.mp n
    obtain ⟨w1,z1⟩:=a.sub c n s w z
    exact b.frm c (by rw [a.keep c o e s w z];simp) (a.frm c n g s w z) s w1 z1,fun c n s w z=>by
    obtain ⟨o,e⟩:=Option.ne_none_iff_exists'.mp n
    obtain ⟨w1,z1⟩:=a.sub c n s w z
    exact b.sub c (by rw [a.keep c o e s w z];simp) s w1 z1,b.ln.trans a.ln⟩
theorem PostF.forget (a:PostF K G so σ H sl fl σ1 H1 G1 s1 f1):PostF K G so σ H sl fl σ1 H1 G1 s1 []:=
  ⟨a.ex,a.rep,.nil,a.keep,a.frm,fun c n s w z=>⟨(a.sub c n s w z).1,by rw [ae2];exact fun m=>by cases m⟩,a.ln⟩
theorem PostF.tail (a:PostF K G so σ H sl fl σ1 H1 G1 s1 (t::f1)):PostF K G so σ H sl fl σ1 H1 G1 s1 f1:=
  ⟨a.ex,a.rep,a.flo.tail,a.keep,a.frm,fun c n s w z=>⟨(a.sub c n s w z).1,fun m=>(a.sub c n s w z).2 (by rw [aaq];exact List.mem_append_right _ m)⟩,a.ln⟩
theorem PostF.s (a:PostF K G so σ H sl [] σ1 H1 G1 s1 f1):PostS K G so σ H sl σ1 H1 G1 s1:=by
  have z:∀ c,c∉FT.asL []:=fun c m=>by rw [ae2] at m;cases m
  exact ⟨a.ex,a.rep,fun c o e s w=>a.keep c o e s w (z c),fun c n g s w=>a.frm c n g s w (z c),fun c n s w=>(a.sub c n s w (z c)).1,a.ln⟩
theorem PostS.f (p:PostS K G so σ H sl σ1 H1 G1 s1) (h:FlOk K G so σ H sl fl):PostF K G so σ H sl fl σ1 H1 G1 s1 fl:=by
  have k:∀ a∈FT.asL fl,H1 a=H a:=fun a m=>by
    obtain ⟨o,e⟩:=Option.ne_none_iff_exists'.mp (h.there m)
    obtain ⟨s,g,w⟩:=h.own a m
    rw [e,p.keep a o e s w]
  exact ⟨p.ex,p.rep,h.keep p.ex k (fun a m=>p.frm a (h.there m) (h.own a m).2.1 (h.own a m).1 (h.own a m).2.2) (fun a m=>p.sub a (h.there m) (h.own a m).1 (h.own a m).2.2),
    fun a o e s w _=>p.keep a o e s w,fun a n g s w _=>p.frm a n g s w,fun a n s w z=>⟨p.sub a n s w,z⟩,p.ln⟩
theorem PostF.back (a:PostF K G so σ H sl fl σ1 H1 G1 s1 f1) {c:Addr} (n:H1 c=none\/Own s1 σ1 c\/c∈FT.asL f1):H c=none\/Own sl σ c\/c∈FT.asL fl:=by
  by_cases w:Own sl σ c
  · exact .inr (.inl w)
  · by_cases z:c∈FT.asL fl
    · exact .inr (.inr z)
    · refine .inl ?_
      cases q:H c with
      | none=>rfl
      | some u=>
        by_cases s:so.Vol c
        · rcases n with n | n | n
          · exact absurd s (a.rep.h.there n)
          · exact absurd s (a.rep.nown n).2.2
          · exact absurd s (a.flo.own c n).1
        · obtain ⟨w1,z1⟩:=a.sub c (by rw [q];simp) s w z
          rcases n with n | n | n
          · rw [a.keep c u q s w z] at n;cases n
          · exact absurd n w1
          · exact absurd n z1
theorem PostFE.r (b:PostFE K G so σ H sl fl v H1 G1 t s1 f1):PostFR K G so σ H sl fl v H1 G1 t f1:=
  ⟨b.ex,b.rep.h,b.keep,b.frm,b.val,b.flo.ok,b.flo.nod,fun a m=>⟨(b.flo.own a m).1,(b.flo.own a m).2.1⟩,fun a m=>b.toPostF.back (.inr (.inr m))⟩
theorem PostF.thenR (a:PostF K G so σ H sl fl σ1 H1 G1 s1 f1) (b:PostFR K G1 so σ1 H1 s1 f1 v H2 G2 t f2):PostFR K G so σ H sl fl v H2 G2 t f2:=
  ⟨a.ex.trans b.ex,b.hrep,fun c o e s w z=>by
    obtain ⟨w1,z1⟩:=a.sub c (by rw [e];simp) s w z
    exact b.keep c o (a.keep c o e s w z) s w1 z1,fun c n g s w z=>by
    obtain ⟨o,e⟩:=Option.ne_none_iff_exists'.mp n
    obtain ⟨w1,z1⟩:=a.sub c n s w z
    exact b.frm c (by rw [a.keep c o e s w z];simp) (a.frm c n g s w z) s w1 z1,b.val,b.ok,b.nod,b.own,fun c m=>a.back (b.new c m)⟩
theorem PostN.f {Gx:Hp} (p:PostN K G so σ H sl v H1 G1 t s1) (h:FlOk K G so σ H sl fl):PostFE K G so σ H sl fl v H1 G1 t s1 fl:=by
  have b:=p.toPost.s.f h
  have ni:∀ a∈t.as,a∉FT.asL fl:=fun a m z=>by
    rcases p.new a m with n | n
    · exact h.there z n
    · exact (h.own a z).2.2 n
  refine ⟨⟨b.ex,b.rep,⟨?_,?_,fun a m=>?_⟩,b.keep,b.frm,fun a n s w z=>⟨(b.sub a n s w z).1,fun m=>?_⟩,b.ln⟩,p.ok⟩
  · obtain ⟨vs,q⟩:=b.flo.ok
    exact ⟨_,.cons p.ok q⟩
  · rw [aaq]
    exact List.nodup_append.mpr ⟨p.nod,b.flo.nod,fun x hx y hy e=>ni x hx (e ▸ hy)⟩
  · rw [aaq] at m
    rcases List.mem_append.mp m with m | m
    · exact p.own a m
    · exact b.flo.own a m
  · rw [aaq] at m
    rcases List.mem_append.mp m with m | m
    · rcases p.new a m with q | q
      · exact n q
      · exact w q
    · exact z m
end
structure EndsF where
  nx:DSt->Fl->Prop
  rt:FT->Fl->Prop
  bk:DSt->Fl->Prop
  ct:DSt->Fl->Prop
  xc:XP
abbrev TDF:=EndsF->DSt->Fl->Prop
abbrev TFE:=DSt->Fl->(FT->DSt->Fl->Prop)->XP->Prop
def XOkF (K:PySem.W.Frag) (W:WX) (G:Hp) (so:So) (σ:L2.St) (H:Hp) (sl:DSt) (fl:Fl) (E:XP):Prop:=
  ∀ cls d σ' H' G' fs sl',PostF K G so σ H sl fl σ' H' G' sl' []->XdOk K G' H' d fs->E cls fs sl'->W cls d σ' H'
structure EFOk (K:PySem.W.Frag) (W:WX) (G:Hp) (so:So) (σ:L2.St) (H:Hp) (sl:DSt) (fl:Fl) (E:EndsF) (D:L2.Ends):Prop where
  nx:∀ σ' H' G' sl' fl',PostF K G so σ H sl fl σ' H' G' sl' fl'->E.nx sl' fl'->D.nx σ' H'
  bk:∀ σ' H' G' sl' fl',PostF K G so σ H sl fl σ' H' G' sl' fl'->E.bk sl' fl'->D.bk σ' H'
  ct:∀ σ' H' G' sl' fl',PostF K G so σ H sl fl σ' H' G' sl' fl'->E.ct sl' fl'->D.ct σ' H'
  rt:∀ v H' G' t fl',PostFR K G so σ H sl fl v H' G' t fl'->E.rt t fl'->D.rt v H'
  xc:XOkF K W G so σ H sl fl E.xc
def upF (K:PySem.W.Frag) (W:WX) (t:TDF):TS:=fun D σ H=>∃ G so sl fl E,Rep K G so σ H sl/\FlOk K G so σ H sl fl/\t E sl fl/\EFOk K W G so σ H sl fl E D
def upFE (K:PySem.W.Frag) (W:WX) (t:TFE):TE:=fun σ H R=>∃ G so sl fl Q E,Rep K G so σ H sl/\FlOk K G so σ H sl fl/\t sl fl Q E/\(∀ v H' G' x sl' fl',PostFE K G so σ H sl fl v H' G' x sl' fl'->Q x sl' fl'->R v H')/\XOkF K W G so σ H sl fl E
def FS (X:Cx) (W:WX) (st:Stmt) (t:TDF):Prop:=PS X st (upF X.K W t)
def FSs (X:Cx) (W:WX) (sts:List Stmt) (t:TDF):Prop:=PSs X sts (upF X.K W t)
def FE (X:Cx) (W:WX) (e:Expr) (t:TFE):Prop:=PE X e (upFE X.K W t)
section
variable {K:PySem.W.Frag} {W:WX} {G G1 G2:Hp} {so:So} {σ σ1 σ2:L2.St} {H H1 H2:Hp} {sl s1 s2:DSt} {fl f1 f2:Fl} {v:V} {t:FT} {E:XP} {EF:EndsF} {D:L2.Ends}
theorem XOkF.step (h:XOkF K W G so σ H sl fl E) (p:PostF K G so σ H sl fl σ1 H1 G1 s1 f1):XOkF K W G1 so σ1 H1 s1 f1 E:=fun cls d σ' H' G' fs sl' q a b=>h cls d σ' H' G' fs sl' (p.trans q) a b
theorem EFOk.step (h:EFOk K W G so σ H sl fl EF D) (p:PostF K G so σ H sl fl σ1 H1 G1 s1 f1):EFOk K W G1 so σ1 H1 s1 f1 EF D:=
  ⟨fun a b c d e q=>h.nx a b c d e (p.trans q),fun a b c d e q=>h.bk a b c d e (p.trans q),fun a b c d e q=>h.ct a b c d e (p.trans q),fun a b c d z q=>h.rt a b c d z (p.thenR q),h.xc.step p⟩
theorem XOkF.xs (h:XOkF K W G so σ H sl fl E) (o:FlOk K G so σ H sl fl):XOkS K W G so σ H sl E:=fun cls d σ' H' G' fs sl' q a b=>h cls d σ' H' G' fs sl' (q.f o).forget a b
theorem XOkF.ex (h:XOkF K W G so σ H sl fl E) (o:FlOk K G so σ H sl fl):XOk K W G so σ H sl E:=(h.xs o).ex
end
def fRt (dv:DV) (Q:FT->Prop):Prop:=match dv with
  | .d d=>Q (.leaf d)
  | .own (.lst ds)=>∀ a,Q (.lst a (ds.map .leaf))
  | _=>False
def fLift (t:TDS):TDF:=fun E sl fl=>t ⟨fun s=>E.nx s fl,fun dv _=>fRt dv fun x=>E.rt x fl,fun s=>E.bk s fl,fun s=>E.ct s fl,E.xc⟩ sl
def fNext:TDF:=fun E sl fl=>E.nx sl fl
def fSeq (t u:TDF):TDF:=fun E sl fl=>t { E with nx:=u E } sl fl
def dFl (t:TDF):TDS:=fun E sl=>t ⟨fun s _=>E.nx s,fun x _=>E.rt (.d x.d) [],fun s _=>E.bk s,fun s _=>E.ct s,E.xc⟩ sl []
def fIf (c:TDT) (t u:TDF):TDF:=fun E sl fl=>c sl (fun b s1=>Br b (t E s1 fl) (u E s1 fl)) E.xc
def xDN (t:TDN):TFE:=fun sl fl Q E=>t sl (fun x s=>Q x s fl) E
section
variable {K:PySem.W.Frag} {W:WX} {G G1 G2:Hp} {so:So} {σ σ1 σ2:L2.St} {H H1 H2:Hp} {sl s1 s2:DSt} {fl f1 f2:Fl} {v:V} {t:FT}
theorem HRep.pubF {as:List Addr} (h:HRep K G so H) (g:∀ a∈as,G a=none/\so.Nt a):HRep K (puB G H as) so H:=by
  have ex:Ex G (puB G H as):=aiY fun a m=>(g a m).1
  refine ⟨fun a o q=>?_,fun a k q=>?_,h.ok,fun a xs q=>ex _ _ (h.tp a xs q)⟩
  · by_cases m:a∈as
    · rw [agA m] at q;exact q
    · rw [ade m] at q;exact h.ex a o q
  · have v:=h.vol a k q
    exact v.keep ex (by rw [ade (fun m=>(g a m).2 ⟨k,q⟩)];exact v.g) rfl
theorem PostFR.pub (p:PostFR K G so σ H sl [] v H1 G1 t f1):PostR K G so σ H sl v H1 (puB G1 H1 t.as) (.d t.d) []:=by
  have z:∀ c,c∉FT.asL []:=fun c m=>by rw [ae2] at m;cases m
  have mt:∀ a∈t.as,a∈FT.asL (t::f1):=fun a m=>by rw [aaq];exact List.mem_append_left _ m
  have ex:Ex G1 (puB G1 H1 t.as):=aiY fun a m=>(p.own a (mt a m)).2
  refine ⟨p.ex.trans ex,p.hrep.pubF fun a m=>⟨(p.own a (mt a m)).2,(p.own a (mt a m)).1⟩,fun a o e s w=>p.keep a o e s w (z a),fun a n g s w=>?_,FOk.pub ex (fun a m=>agA m) p.val,fun _ _ e=>(nomatch e),fun i x C fs e=>by simp at e⟩
  rw [ade (fun m=>by
    rcases p.new a (mt a m) with q | q | q
    · exact n q
    · exact w q
    · exact z a q)]
  exact p.frm a n g s w (z a)
theorem PostFE.pub (p:PostFE K G so σ H sl fl v H1 G1 t s1 f1):∃ G2,PostF K G so σ H sl fl σ H1 G2 s1 f1/\DOk K G2 v t.d:=by
  have mt:∀ a∈t.as,a∈FT.asL (t::f1):=fun a m=>by rw [aaq];exact List.mem_append_left _ m
  have ex:Ex G1 (puB G1 H1 t.as):=aiY fun a m=>(p.flo.own a (mt a m)).2.1
  have nd:=p.flo.nod
  rw [aaq] at nd
  have dj:∀ a∈FT.asL f1,a∉t.as:=fun a m m2=>(List.nodup_append.mp nd).2.2 a m2 a m rfl
  have b:=p.toPostF.tail
  refine ⟨puB G1 H1 t.as,⟨p.ex.trans ex,⟨p.rep.h.pubF fun a m=>⟨(p.flo.own a (mt a m)).2.1,(p.flo.own a (mt a m)).1⟩,p.rep.len,fun i dv e=>?_,p.rep.sep,p.rep.bor,p.rep.nse⟩,b.flo.keep ex (fun _ _=>rfl) (fun a m=>by rw [ade (dj a m)];exact (b.flo.own a m).2.1) (fun a m=>(b.flo.own a m).2.2),b.keep,fun a n g s w z=>?_,b.sub,b.ln⟩,FOk.pub ex (fun a m=>agA m) p.val⟩
  · obtain ⟨w,e1,e2⟩:=p.rep.slots i dv e
    refine ⟨w,e1,SlOk.keep e2 p.rep.h.ok ex (fun _ _ q _=>q) fun a o ed q=>?_⟩
    subst ed
    subst q
    rw [ade (fun m=>(p.flo.own a (mt a m)).2.2 ⟨i,o,e,e1⟩)]
    exact (p.rep.nown ⟨i,o,e,e1⟩).2.1
  · rw [ade (fun m=>(p.sub a n s w z).2 (mt a m))]
    exact p.frm a n g s w z
theorem PostF.set {i:Nat} {x:D} (hi:i < σ.length) (p:PostF K G so σ H sl fl σ H1 G1 s1 f1) (w:DOk K G1 v x):PostF K G so σ H sl fl (σ.set i (some v)) H1 G1 (s1.set i (some (.d x))) f1:=by
  obtain ⟨r,s⟩:=akc (K:=K) (dv:=.d x) (H1:=fun _=>some (.lst [])) (s1:=s1) (σ1:=σ) hi (fun _ z=>(nomatch z)) p.rep w (fun _ _ z=>by rcases z with z | z<;>cases z) (fun _ _ _ _ z=>(nomatch z)) (fun _ _ z=>(nomatch z)) (fun a _ _ w z=>w z)
  have s:∀ a,so.Nt a->¬ Own s1 σ a->¬ Own (s1.set i (some (.d x))) (σ.set i (some v)) a:=fun a n w=>s a (by simp) n w
  exact ⟨p.ex,r,p.flo.keep (Ex.refl _) (fun _ _=>rfl) (fun a m=>(p.flo.own a m).2.1) (fun a m=>s a (p.flo.own a m).1 (p.flo.own a m).2.2),p.keep,p.frm,fun a n sa w z=>⟨s a sa (p.sub a n sa w z).1,(p.sub a n sa w z).2⟩,List.length_set⟩
theorem PostR.f {dv:DV} (p:PostR K G so σ H sl v H1 G1 dv s1) (h:FlOk K G so σ H sl fl) {Q:FT->Prop} (q:fRt dv Q):∃ t,Q t/\PostFR K G so σ H sl fl v H1 G1 t fl:=by
  have k:∀ a∈FT.asL fl,H1 a=H a:=fun a m=>by
    obtain ⟨o,e⟩:=Option.ne_none_iff_exists'.mp (h.there m)
    obtain ⟨s,g,w⟩:=h.own a m
    rw [e,p.keep a o e s w]
  have g1:∀ a∈FT.asL fl,G1 a=none:=fun a m=>p.frm a (h.there m) (h.own a m).2.1 (h.own a m).1 (h.own a m).2.2
  obtain ⟨vs,fk⟩:=h.ok
  have fk:=fk.keep p.ex k
  cases dv with
  | d d=>
    have la:FT.asL (.leaf d::fl)=FT.asL fl:=by rw [aaq,FT.as,List.nil_append]
    exact ⟨.leaf d,q,p.ex,p.hrep,fun a o e s w _=>p.keep a o e s w,fun a n g s w _=>p.frm a n g s w,.leaf p.val,⟨_,.cons (.leaf p.val) fk⟩,by rw [la];exact h.nod,fun a m=>by rw [la] at m;exact ⟨(h.own a m).1,g1 a m⟩,fun a m=>by rw [la] at m;exact .inr (.inr m)⟩
  | own o=>
    cases o with
    | lst ds=>
      obtain ⟨a,rfl,ga,sa,us,e1,al⟩:=p.val
      have la:FT.asL (.lst a (ds.map .leaf)::fl)=a::FT.asL fl:=by rw [aaq,FT.as,adZ];rfl
      have new:=p.new a _ rfl rfl
      have ni:a∉FT.asL fl:=fun m=>by
        rcases new with n | n
        · exact h.there m n
        · exact (h.own a m).2.2 n
      have ok:FOk K G1 H1 (.ref a) (.lst a (ds.map .leaf)):=.lst e1 (FOkL.leaves al)
      refine ⟨_,q a,p.ex,p.hrep,fun a o e s w _=>p.keep a o e s w,fun a n g s w _=>p.frm a n g s w,ok,⟨_,.cons ok fk⟩,by rw [la];exact List.nodup_cons.mpr ⟨ni,h.nod⟩,fun b m=>?_,fun b m=>?_⟩
      · rw [la] at m
        rcases List.mem_cons.mp m with rfl | m
        · exact ⟨sa,ga⟩
        · exact ⟨(h.own b m).1,g1 b m⟩
      · rw [la] at m
        rcases List.mem_cons.mp m with rfl | m
        · exact new.elim .inl fun z=>.inr (.inl z)
        · exact .inr (.inr m)
    | _=>exact q.elim
  | _=>exact q.elim
end
def FT.top:FT->D
  | .leaf d=>d
  | .lst a _=>.raw (.ref a)
  | .ins a _ _=>.raw (.ref a)
theorem FOk.top {K:PySem.W.Frag} {G H:Hp} {v:V} {t:FT} (h:FOk K G H v t):DOk K G v t.top:=by
  cases h with
  | leaf h=>exact h
  | lst h r=>exact .raw _
  | ins h g r=>exact .raw _
def fSet (te:TFE) (i:Nat):TDF:=fun E sl fl=>te sl fl (fun x s f=>E.nx (s.set i (some (.d x.top))) (x::f)) E.xc
def fSetP (te:TFE) (i:Nat):TDF:=fun E sl fl=>te sl fl (fun x s f=>E.nx (s.set i (some (.d x.d))) f) E.xc
def fRet (te:TFE):TDF:=fun E sl fl=>te sl fl (fun x _ f=>E.rt x f) E.xc
section
variable {X:Cx} {W:WX} {st:Stmt} {rest body orelse:List Stmt} {t u:TDF} {td:TDS} {e c:Expr} {te:TFE} {tn:TDN} {tc:TDT} {pos pos':Pos} {i:Nat} {x:Str}
theorem aim (h:DS X W st td):FS X W st (fLift td):=adp h fun D σ H ⟨G,so,sl,fl,E,rep,fo,q,ok⟩=>
  ⟨G,so,sl,_,rep,q,⟨fun σ' H' G' sl' p z=>ok.nx _ _ _ _ _ (p.f fo) z,fun σ' H' G' sl' p z=>ok.bk _ _ _ _ _ (p.f fo) z,fun σ' H' G' sl' p z=>ok.ct _ _ _ _ _ (p.f fo) z,fun v H' G' dv sl' p z=>by
    obtain ⟨t,q1,q2⟩:=p.f (Q:=fun x=>E.rt x fl) fo z
    exact ok.rt v H' G' t fl q2 q1,ok.xc.xs fo⟩⟩
theorem ao8:FSs X W [] fNext:=afz pss_nil fun D σ H ⟨G,so,sl,fl,E,rep,fo,q,ok⟩=>ok.nx σ H G sl fl (.refl rep fo) q
theorem aco (h1:FS X W st t) (h2:FSs X W rest u):FSs X W (st::rest) (fSeq t u):=afz (pss_cons h1 h2) fun D σ H ⟨G,so,sl,fl,E,rep,fo,q,ok⟩=>
  ⟨G,so,sl,fl,_,rep,fo,q,⟨fun σ1 H1 G1 s1 f1 p q1=>⟨G1,so,s1,f1,E,p.rep,p.flo,q1,ok.step p⟩,ok.bk,ok.ct,ok.rt,ok.xc⟩⟩
theorem afG (h:FS X W st t):FSs X W [st] t:=pss_one h
theorem aqo (h:FSs X W rest t):DSs X W rest (dFl t):=afz h fun D σ H ⟨G,so,sl,E,rep,q,ok⟩=>
  ⟨G,so,sl,[],_,rep,.nil,q,⟨fun σ' H' G' sl' fl' p z=>ok.nx _ _ _ _ p.s z,fun σ' H' G' sl' fl' p z=>ok.bk _ _ _ _ p.s z,fun σ' H' G' sl' fl' p z=>ok.ct _ _ _ _ p.s z,fun v H' G' x fl' p z=>ok.rt v H' _ _ [] p.pub z,fun cls d σ' H' G' fs sl' p a b=>ok.xc cls d σ' H' G' fs sl' p.s a b⟩⟩
theorem fs_if (hc:DT X W c tc) (h1:FSs X W body t) (h2:FSs X W orelse u):FS X W (.If c body orelse pos) (fIf tc t u):=adp (ps_if hc h1 h2) fun D σ H ⟨G,so,sl,fl,E,rep,fo,q,ok⟩=>by
  refine ⟨G,so,sl,_,E.xc,rep,q,fun k H1 G1 s1 p q1=>?_,ok.xc.ex fo⟩
  have pf:=p.s.f fo
  cases k with
  | true=>show upF X.K W t D σ H1;exact ⟨G1,so,s1,fl,E,p.rep,pf.flo,brt q1,ok.step pf⟩
  | false=>show upF X.K W u D σ H1;exact ⟨G1,so,s1,fl,E,p.rep,pf.flo,brf q1,ok.step pf⟩
theorem ahl (h:DN X W e tn):FE X W e (xDN tn):=aaD h fun σ H R ⟨G,so,sl,fl,Q,E,rep,fo,q,hq,hx⟩=>
  ⟨G,so,sl,_,E,rep,q,fun v H' G' x s p z=>hq v H' G' x s fl (p.f (Gx:=G) fo) z,hx.ex fo⟩
theorem an0 (hN:X.N.Nodup) (hi:X.N[i]?=some x) (hx:Loc X.env.scope x) (he:FE X W e te) (hs:swapsWith e (some (.Name x pos')) pos.line X.env=pure false:=by rfl) (hf:X.fn x=true\/X.env.scope.names.lookup x=some .local:=by first | exact .inl rfl | exact .inr rfl | assumption) :
    FS X W (.Assign [.Name x pos'] e pos) (fSet te i):=aiZ (ps_set hN hi hx he hs hf) fun D σ H hl ⟨G,so,sl,fl,E,rep,fo,q,ok⟩=>
  ⟨G,so,sl,fl,_,E.xc,rep,fo,q,fun v H1 G1 t s1 f1 p q1=>ok.nx _ H1 G1 _ _ (p.toPostF.set (by rw [hl];exact (List.getElem?_eq_some_iff.mp hi).1) p.val.top) q1,ok.xc⟩
theorem ao9 (hN:X.N.Nodup) (hi:X.N[i]?=some x) (hx:Loc X.env.scope x) (he:FE X W e te) (hs:swapsWith e (some (.Name x pos')) pos.line X.env=pure false:=by rfl) (hf:X.fn x=true\/X.env.scope.names.lookup x=some .local:=by first | exact .inl rfl | exact .inr rfl | assumption) :
    FS X W (.Assign [.Name x pos'] e pos) (fSetP te i):=aiZ (ps_set hN hi hx he hs hf) fun D σ H hl ⟨G,so,sl,fl,E,rep,fo,q,ok⟩=>
  ⟨G,so,sl,fl,_,E.xc,rep,fo,q,fun v H1 G1 t s1 f1 p q1=>by
    obtain ⟨G2,p2,w⟩:=p.pub
    exact ok.nx _ H1 G2 _ _ (p2.set (by rw [hl];exact (List.getElem?_eq_some_iff.mp hi).1) w) q1,ok.xc⟩
theorem an1 (h:FE X W e te):FS X W (.Return (some e) pos) (fRet te):=adp (ps_ret h) fun D σ H ⟨G,so,sl,fl,E,rep,fo,q,ok⟩=>
  ⟨G,so,sl,fl,_,E.xc,rep,fo,q,fun v H1 G1 t s1 f1 p q1=>ok.rt v H1 G1 t f1 p.r q1,ok.xc⟩
end
abbrev SpN:=List DV->(FT->Prop)->XE'->Prop
structure PostVN (K:PySem.W.Frag) (G:Hp) (so:So) (H:Hp) (v:V) (H' G':Hp) (t:FT):Prop extends PostH K G so H H' G' where
  ok:FOk K G' H' v t
  nod:t.as.Nodup
  own:∀ a∈t.as,so.Nt a/\G' a=none
  new:∀ a∈t.as,H a=none
structure PostIN (K:PySem.W.Frag) (G:Hp) (so:So) (H:Hp) (x:Addr) (H' G':Hp) (t:FT):Prop extends PostX K G so H x H' G' where
  ok:FOk K G' H' (.ref x) t
  nod:t.as.Nodup
  own:∀ a∈t.as,so.Nt a/\G' a=none
  new:∀ a∈t.as,H a=none\/a=x
def upSN (K:PySem.W.Frag) (sp:SpN):Sp:=fun vs H Q E=>∃ G so args QD ED,HRep K G so H/\VsOk K G so H vs args/\sp args QD ED/\(∀ v H' G' t,PostVN K G so H v H' G' t->QD t->Q v H')/\
  (∀ cls d H' G' fs,PostH K G so H H' G'->XdOk K G' H' d fs->ED cls fs->E cls d H')
def upIN (K:PySem.W.Frag) (C:Addr) (sp:SpN):Sp:=fun vs H Q E=>∃ x vs' G so args QD ED,vs=.ref x::vs'/\HRep K G so H/\OwnOk K G H x (.ins x C [])/\G x=none/\so.Nt x/\VsOk K G so H vs' args/\sp args QD ED/\
  (∀ H' G' t,PostIN K G so H x H' G' t->QD t->Q .non H')/\(∀ cls d H' G' fs,PostX K G so H x H' G'->XdOk K G' H' d fs->ED cls fs->E cls d H')
section
variable {K:PySem.W.Frag} {W:WX} {G G1 G2 G':Hp} {so:So} {σ σ1:L2.St} {H H1 H2 H':Hp} {sl s1 s2:DSt} {fl f1:Fl} {v:V} {t:FT}
theorem PostVN.slots (p:PostVN K G so H v H' G' t) (r:Rep K G so σ H sl):PostN K G so σ H sl v H' G' t sl:=by
  have pn:PostV K G so H .non H' G' (.d .non):=⟨p.ex,p.hrep,p.keep,p.frm,.non,fun _ _ e=>(nomatch e),fun _ e=>(nomatch e)⟩
  have hb:∀ a∈t.as,∀ (i:Nat) (o:OO),sl[i]?=some (some (.bor o))->σ[i]?=some (some (.ref a))->False:=fun a m i o e1 e2=>by
    obtain ⟨w,f1,f2⟩:=r.slots i _ e1
    rw [e2] at f1;cases f1
    obtain ⟨b,z,_,k⟩:=f2
    cases z
    exact k.there (p.new a m)
  exact { (pn.slots r).toPost with ok:=p.ok,nod:=p.nod,own:=fun a m=>⟨(p.own a m).1,(p.own a m).2,fun w=>(r.nown w).1 (p.new a m)⟩,new:=fun a m=>.inl (p.new a m),bor:=hb }
theorem Post.thenN (a:Post K G so σ H sl H1 G1 s1) (b:PostN K G1 so σ H1 s1 v H2 G2 t s2):PostN K G so σ H sl v H2 G2 t s2:=
  { a.trans b.toPost with ok:=b.ok,nod:=b.nod,own:=b.own,new:=fun c m=>(b.new c m).elim (fun n=>.inl (a.back n)) fun w=>.inr (a.sub c w),bor:=b.bor }
theorem FOkL.mem:∀ {vs:List V} {fl:Fl},FOkL K G H vs fl->t∈fl->∃ v,FOk K G H v t
  | _,_,.nil,m=>by cases m
  | _,_,.cons h r,m=>by
    rcases List.mem_cons.mp m with rfl | m
    · exact ⟨_,h⟩
    · exact FOkL.mem r m
theorem ajs:∀ {fl:Fl},t∈fl->∀ a∈t.as,a∈FT.asL fl
  | [],m,_,_=>by cases m
  | y::r,m,a,ha=>by
    rw [aaq]
    rcases List.mem_cons.mp m with rfl | m
    · exact List.mem_append_left _ ha
    · exact List.mem_append_right _ (ajs m a ha)
theorem aoa:∀ {fl:Fl},t∈fl->(FT.asL fl).Nodup->t.as.Nodup
  | [],m,_=>by cases m
  | y::r,m,h=>by
    rw [aaq] at h
    have h:=List.nodup_append.mp h
    rcases List.mem_cons.mp m with rfl | m
    · exact h.1
    · exact aoa m h.2.1
end
theorem an3 {P:Program} {w:World} {K:PySem.W.Frag} {mg:Str->Option Value} {base:Heap} {x qual:Str} {params:Arguments} {body:List Stmt} {scope:Scope} {dvs:List V} {kws:List (Str × V)} {f:Addr} {fd:FuncData} {N ps:List Str} {k:Nat} {sp:SpN} {t:TDF}
    (F:FunD K x qual params body scope dvs kws f fd) (S:FnScope N ps scope) (len:∀ args Q E,sp args Q E->args.length=ps.length) (nsee:∀ args Q E,sp args Q E->∀ (i:Nat) (o:OO),args[i]?≠some (.see o))
    (hd:∀ (cdv:Value) (A:Around) (outer:List Env) (s:Shared) (H:Hp) (E:XK),Room k (A.deeper (envOfC qual scope s.heap.objs.size f cdv))->(cxOf (L2N.CX P w) P w K mg base N qual scope f cdv A outer s H E).A.guards=some []->
      FSs (cxOf (L2N.CX P w) P w K mg base N qual scope f cdv A outer s H E) (fun cls d _ H'=>E cls d H') body t)
    (hr:∀ args Q E,sp args Q E->t { nx:=fun _ _=>Q (.leaf .non),rt:=fun v _=>Q v,bk:=fun _ _=>False,ct:=fun _ _=>False,xc:=fun cls fs _=>E cls fs } (startD N args) []):FnR P w K mg base (k + 1) f fd ps (upSN K sp):=by
  refine akC F S (fun vs H Q E h=>?_) (fun cdv A outer s H vs Q E hroom hg h=>?_)
  · obtain ⟨G,so,as,QD,ED,_,w1,q,_⟩:=h
    rw [w1.length];exact len _ _ _ q
  · obtain ⟨G,so,as,QD,ED,hrep,wv,q,hq,hx⟩:=h
    have no:∀ a,¬ Own (startD N as) (L2.start N vs) a:=fun a ⟨i,o,e,_⟩=>by
      obtain ⟨_,_,_,n⟩:=wv.get (adm e)
      exact n o rfl
    have rep:Rep K G so.drop (L2.start N vs) H (startD N as):=agy hrep.drop wv.drop (nsee _ _ _ q)
    have zf:∀ c,c∉FT.asL []:=fun c m=>by rw [ae2] at m;cases m
    refine ⟨_,hd cdv A outer s H E hroom hg,G,so.drop,_,[],_,rep,.nil,hr as QD ED q,⟨fun σ' H' G' sl' fl' p z=>?_,fun _ _ _ _ _ _ z=>z.elim,fun _ _ _ _ _ _ z=>z.elim,fun v H' G' t fl' p z=>?_,fun cls d σ' H' G' fs sl' p z1 z2=>?_⟩⟩
    · have u:PostHU K G so.drop H H' G':=⟨p.ex,p.rep.h,fun a o e s=>p.keep a o e s (no a) (zf a),fun a n g s=>p.frm a n g s (no a) (zf a)⟩
      have m0:∀ a,a∉(FT.leaf .non).as:=fun a m=>by rw [FT.as] at m;cases m
      exact hq .non H' G' (.leaf .non) { u.back hrep with ok:=.leaf .non,nod:=by rw [FT.as];exact .nil,own:=fun a m=>absurd m (m0 a),new:=fun a m=>absurd m (m0 a) } z
    · have u:PostHU K G so.drop H H' G':=⟨p.ex,p.hrep,fun a o e s=>p.keep a o e s (no a) (zf a),fun a n g s=>p.frm a n g s (no a) (zf a)⟩
      have mt:∀ a∈t.as,a∈FT.asL (t::fl'):=fun a m=>by rw [aaq];exact List.mem_append_left _ m
      have nw:∀ a∈t.as,H a=none:=fun a m=>(p.new a (mt a m)).elim (fun n=>n) fun z=>z.elim (fun z=>absurd z (no a)) fun z=>absurd z (zf a)
      have nd:=p.nod
      rw [aaq] at nd
      exact hq v H' G' t { u.back hrep with ok:=p.val,nod:=(List.nodup_append.mp nd).1,own:=fun a m=>⟨hrep.there (nw a m),(p.own a (mt a m)).2⟩,new:=nw } z
    · have u:PostHU K G so.drop H H' G':=⟨p.ex,p.rep.h,fun a o e s=>p.keep a o e s (no a) (zf a),fun a n g s=>p.frm a n g s (no a) (zf a)⟩
      exact hx cls d H' G' fs (u.back hrep) z1 z2
def endIN (x C:Addr) (Q:FT->Prop) (fl:Fl):Prop:=∃ fs,FT.ins x C fs∈fl/\Q (.ins x C fs)
theorem apb {P:Program} {w:World} {K:PySem.W.Frag} {mg:Str->Option Value} {base:Heap} {n qual:Str} {params:Arguments} {body:List Stmt} {scope:Scope} {dvs:List V} {kws:List (Str × V)} {f C:Addr} {fd:FuncData} {N ps:List Str} {k:Nat} {sp:SpN} {t:TDF}
    (F:FunD K n qual params body scope dvs kws f fd) (S:FnScope N ps scope) (len:∀ args Q E,sp args Q E->args.length + 1=ps.length) (nsee:∀ args Q E,sp args Q E->∀ (i:Nat) (o:OO),args[i]?≠some (.see o))
    (hd:∀ (cdv:Value) (A:Around) (outer:List Env) (s:Shared) (H:Hp) (E:XK),Room k (A.deeper (envOfC qual scope s.heap.objs.size f cdv))->(cxOf (L2N.CX P w) P w K mg base N qual scope f cdv A outer s H E).A.guards=some []->
      FSs (cxOf (L2N.CX P w) P w K mg base N qual scope f cdv A outer s H E) (fun cls d _ H'=>E cls d H') body t)
    (hr:∀ args Q E x,sp args Q E->t { nx:=fun _=>endIN x C Q,rt:=fun _ _=>False,bk:=fun _ _=>False,ct:=fun _ _=>False,xc:=fun cls fs _=>E cls fs } (startD N (.d (.raw (.ref x))::args)) [.ins x C []]):FnR P w K mg base (k + 1) f fd ps (upIN K C sp):=by
  refine akC F S (fun vs H Q E h=>?_) (fun cdv A outer s H vs Q E hroom hg h=>?_)
  · obtain ⟨x,vs',G,so,args,QD,ED,rfl,_,_,_,_,w1,q,_⟩:=h
    rw [List.length_cons,w1.length];exact len _ _ _ q
  · obtain ⟨x,vs',G,so,args,QD,ED,rfl,hrep,ow,gx,sx,w1,q,hq,hx⟩:=h
    obtain ⟨_,dx,vs,hx0,hd0,fa⟩:=ow
    obtain rfl:vs=[]:=by cases fa;rfl
    have w2:VsOk K G so H (.ref x::vs') (.d (.raw (.ref x))::args):=.cons (d:=.d (.raw (.ref x))) (show DOk _ _ _ _ from .raw _) (fun _ e=>(nomatch e)) w1
    have no:∀ a,¬ Own (startD N (.d (.raw (.ref x))::args)) (L2.start N (.ref x::vs')) a:=fun a ⟨i,o,e,_⟩=>by
      obtain ⟨_,_,_,n⟩:=w2.get (adm e)
      exact n o rfl
    have rep:Rep K G so (L2.start N (.ref x::vs')) H (startD N (.d (.raw (.ref x))::args)):=agy hrep w2 fun i o e=>by
      cases i with
      | zero=>simp at e
      | succ j=>exact nsee _ _ _ q j o (by simpa using e)
    have ea:FT.asL [.ins x C []]=[x]:=by rw [aaq,FT.as,FT.asF,ae2];rfl
    have zf:∀ c,c≠x->c∉FT.asL [.ins x C []]:=fun c n m=>by rw [ea] at m;exact n (List.mem_singleton.mp m)
    have fo:FlOk K G so (L2.start N (.ref x::vs')) H (startD N (.d (.raw (.ref x))::args)) [.ins x C []]:=⟨⟨[.ref x],.cons (.ins hx0 hd0 .nil) .nil⟩,by rw [ea];simp,fun a m=>by
      rw [ea] at m
      rw [List.mem_singleton.mp m]
      exact ⟨sx,gx,no x⟩⟩
    refine ⟨_,hd cdv A outer s H E hroom hg,G,so,_,_,_,rep,fo,hr args QD ED x q,⟨fun σ' H' G' sl' fl' p z=>?_,fun _ _ _ _ _ _ z=>z.elim,fun _ _ _ _ _ _ z=>z.elim,fun _ _ _ _ _ _ z=>z.elim,fun cls d σ' H' G' fs sl' p z1 z2=>?_⟩⟩
    · obtain ⟨fs,m,z⟩:=z
      obtain ⟨us,ok⟩:=p.flo.ok
      obtain ⟨v,hv⟩:=ok.mem m
      obtain rfl:v=.ref x:=by cases hv;rfl
      refine hq H' G' _ ⟨⟨p.ex,p.rep.h,fun b o e s n=>p.keep b o e s (no b) (zf b n),fun b n1 g s n=>p.frm b n1 g s (no b) (zf b n)⟩,hv,aoa m p.flo.nod,fun a ma=>⟨(p.flo.own a (ajs m a ma)).1,(p.flo.own a (ajs m a ma)).2.1⟩,fun a ma=>?_⟩ z
      rcases p.back (.inr (.inr (ajs m a ma))) with n | n | n
      · exact .inl n
      · exact absurd n (no a)
      · rw [ea] at n;exact .inr (List.mem_singleton.mp n)
    · exact hx cls d H' G' fs ⟨p.ex,p.rep.h,fun b o e s n=>p.keep b o e s (no b) (zf b n),fun b n1 g s n=>p.frm b n1 g s (no b) (zf b n)⟩ z1 z2
def dCallN (sp:SpN) (n m:Nat) (sel:List Sel) (ta tk:TDA):TDN:=fun sl Q E=>ta sl (fun xs s1=>tk s1 (fun ys s2=>xs.length=n/\ys.length=m/\sp (sel.map (pickD xs ys)) (fun v=>Q v s2) fun cls fs=>E cls fs s2) E) E
def dMakeN (sp:SpN) (n m:Nat) (sel:List Sel) (ta tk:TDA):TDN:=fun sl Q E=>ta sl (fun xs s1=>tk s1 (fun ys s2=>xs.length=n/\ys.length=m/\sp (sel.map (pickD (.d .non::xs) ys)) (fun v=>Q v s2) fun cls fs=>E cls fs s2) E) E
section
variable {X:Cx} {W:WX} {k n:Nat} {f C:Addr} {fd:FuncData} {ps ks:List Str} {sp:SpN} {sel:List Sel}
theorem ahX {pins:List (Addr × Obj)} {σ:L2.St} {H G:Hp} {so:So} {sl:DSt} {s:Shared} {Q:VK} {us ws:List Value} {vs qs:List V} {ds es:List DV} {Q':FT->DSt->Prop} {E:XP} (F:FnR X.prog X.w X.K X.mg X.base k f fd ps (upSN X.K sp)) (hr:Room k X.A) (hg:X.A.guards=some []) (tk:L2N.Takes X W) (hb:Bd X.K fd ps n ks sel)
    (I:Inv X pins σ H s) (rep:Rep X.K G so σ H sl) (r:Vals vs us) (r2:Vals qs ws) (w:VsOk X.K G so H vs ds) (w2:VsOk X.K G so H qs es) (l1:ds.length=n) (l2:es.length=ks.length)
    (q:sp (sel.map (pickD ds es)) (fun v=>Q' v sl) fun cls fs=>E cls fs sl) (hq:∀ v H' G' x sl',PostN X.K G so σ H sl v H' G' x sl'->Q' x sl'->Q v H') (hx:XOk X.K W G so σ H sl E) :
    wpAny (model X.prog X.w) X.A (call (.ref f) us (ks.zip ws)) (EP X pins σ Q) X.xe s:=by
  obtain ⟨zs,bt,rz⟩:=hb.to s us ws vs qs I.kIn (by rw [<- r.length,w.length,l1]) (by rw [<- r2.length,w2.length,l2]) r r2
  have pk:=w.pick w2 sel hb.dok
  refine wpAny_call (codeAny_mono (F.run X.A X.stack s H ⟨us,ks.zip ws⟩ zs (sel.map (pickV vs qs)) Q (fun cls d H'=>W cls d σ H') hr hg I.env0 bt rz ⟨G,so,_,_,_,rep.h,pk,q,fun v H' G' x pv z=>hq v H' G' x sl (pv.slots rep) z,fun cls d H' G' fs ph z1 z2=>?_⟩) fun r s' hz=>?_)
  · have pn:PostV X.K G so H .non H' G' (.d .non):=⟨ph.ex,ph.hrep,ph.keep,ph.frm,.non,fun _ _ e=>(nomatch e),fun _ e=>(nomatch e)⟩
    exact hx cls d H' G' fs sl (pn.slots rep).toPost z1 z2
  · cases r with
    | error e=>exact tk e s' (L2N.XE.of_call I (fun _ _ _ z=>z) hz)
    | ok fl=>
      cases fl with
      | ret u=>exact I.after hz
      | next=>exact False.elim hz
      | brk=>exact False.elim hz
      | cont=>exact False.elim hz
end
section
variable {X:Cx} {W:WX} {k n:Nat} {f C:Addr} {fd:FuncData} {ps ks:List Str} {sp:SpN} {sel:List Sel} {x nm m:Str} {p pos apos kpos:Pos} {o e:Expr} {es:List Expr} {kws:List Keyword} {ta tk tk':TDA} {to te:TD} {pl:Sem Bool}
theorem amt (F:FnR X.prog X.w X.K X.mg X.base k f fd ps (upSN X.K sp)) (hr:Room k X.A) (hgd:X.A.guards=some []) (tk:L2N.Takes X W) (hb:Bd X.K fd ps n [] sel) (hg:Gl X x) (hm:X.mg x=some (.ref f)) (hk:PySem.W.keepIn X.K (.ref f)=true)
    (ha:DA X W (e::es) ta) (hdb:(x == ("__debug__":Str))=false:=by decide) (he:starEach (e::es) X.env=(false,eval e X.env)::starEach es X.env:=by rfl) (hpl:(backTo pos (starEach es X.env)).any (·.1)=false:=by rfl) :
    DN X W (.Call (.Name x p) (e::es) [] pos) (dCallN sp n 0 sel ta dNil):=by
  refine ⟨fun pins s σ H Q I ⟨G,so,sl,Q',E,rep,q,hq,hx⟩=>wpAny_Call_Name_kw (ld_glob I hg hm ?_ hdb)⟩
  refine PySem.W.callWith_K (h₀:=X.base) I.ok.mod.kin hk (thn (ha.run pos pins s σ H (fun vs H1=>∃ G1 ds s1,Post X.K G so σ H sl H1 G1 s1/\VsOk X.K G1 so H1 vs ds/\ds.length=n/\sp (sel.map (pickD ds [])) (fun v=>Q' v s1) fun cls fs=>E cls fs s1) I
    ⟨G,so,sl,_,E,rep,q,fun vs H1 G1 ds s1 p1 w z=>⟨G1,ds,s1,p1,w,z.1,z.2.2⟩,hx⟩) fun us s1 ⟨vs,H1,I1,r,G1,ds,sl1,p1,w,l1,z⟩=>⟨I1.kIn,?_⟩) he hpl
  exact ahX (ws:=[]) (qs:=[]) (es:=[]) F hr hgd tk hb I1 p1.rep r .nil w .nil l1 rfl z (fun v H' G' dv sl' pe z'=>hq v H' G' dv sl' (p1.thenN pe) z') (hx.step p1)
end
section
variable {X:Cx} {W:WX} {k n:Nat} {f C:Addr} {fd:FuncData} {ps ks:List Str} {sp:SpN} {sel:List Sel}
theorem aiV {pins:List (Addr × Obj)} {σ:L2.St} {H G:Hp} {so:So} {sl:DSt} {s:Shared} {Q:VK} {us ws:List Value} {vs qs:List V} {ds es:List DV} {Q':FT->DSt->Prop} {E:XP} (M:Mk X.K C f) (F:FnR X.prog X.w X.K X.mg X.base k f fd ps (upIN X.K C sp)) (hr:Room (k + 1) X.A) (hg:X.A.guards=some []) (tk:L2N.Takes X W) (hb:Bd X.K fd ps (n + 1) ks (.pos 0::sel)) (hz:noZero sel=true)
    (I:Inv X pins σ H s) (rep:Rep X.K G so σ H sl) (r:Vals vs us) (r2:Vals qs ws) (w:VsOk X.K G so H vs ds) (w2:VsOk X.K G so H qs es) (l1:ds.length=n) (l2:es.length=ks.length)
    (q:sp (sel.map (pickD (.d .non::ds) es)) (fun v=>Q' v sl) fun cls fs=>E cls fs sl) (hq:∀ v H' G' x sl',PostN X.K G so σ H sl v H' G' x sl'->Q' x sl'->Q v H') (hx:XOk X.K W G so σ H sl E) :
    wpAny (model X.prog X.w) X.A (call (.ref C) us (ks.zip ws)) (EP X pins σ Q) X.xe s:=by
  have I2:=Inv.made (C:=C) I
  generalize hxx:s.heap.objs.size + 1=x at I2
  have nx:H x=none:=by rw [<- hxx];exact I.hok.fresh (Nat.le_succ _)
  have nd:H s.heap.objs.size=none:=I.hok.fresh (Nat.le_refl _)
  have ne:s.heap.objs.size≠x:=by rw [<- hxx];exact Nat.ne_of_lt (Nat.lt_succ_self _)
  generalize hdd:s.heap.objs.size=dx at I2 nd ne
  have nx2:upd H dx (.own x) x=none:=by rw [upd_ne (Ne.symm ne)];exact nx
  have h0:HRep X.K (upd G dx (.own x)) so (upd (upd H dx (.own x)) x (.ins C dx [])):=(rep.h.allocG nd).alloc nx2
  have gx:upd G dx (.own x) x=none:=by rw [upd_ne (Ne.symm ne)];exact rep.h.ex.free nx
  have kp:∀ a o,H a=some o->upd (upd H dx (.own x)) x (.ins C dx []) a=some o:=fun a o e=>by
    rw [upd_ne (ne_of_none e nx),upd_ne (ne_of_none e nd)];exact e
  have eg:Ex G (upd G dx (.own x)):=Ex.new (rep.h.ex.free nd)
  have w':VsOk X.K (upd G dx (.own x)) so (upd (upd H dx (.own x)) x (.ins C dx [])) vs ds:=w.keep eg fun a o e _=>kp a o e
  have w2':VsOk X.K (upd G dx (.own x)) so (upd (upd H dx (.own x)) x (.ins C dx [])) qs es:=w2.keep eg fun a o e _=>kp a o e
  obtain ⟨zs,bt,rz⟩:=hb.to _ (.ref x::us) ws (.ref x::vs) qs I2.kIn (by rw [List.length_cons,<- r.length,w.length,l1]) (by rw [<- r2.length,w2.length,l2]) (.cons rfl r) r2
  have pk:VsOk X.K (upd G dx (.own x)) so (upd (upd H dx (.own x)) x (.ins C dx [])) (sel.map (pickV (.ref x::vs) qs)) (sel.map (pickD (.d .non::ds) es)):=by
    rw [ae8 (v':=.non) hz]
    exact VsOk.pick (.cons (d:=.d .non) (show DOk _ _ _ _ from .non) (fun _ e=>(nomatch e)) w') w2' sel fun s hs=>hb.dok s (List.mem_cons_of_mem _ hs)
  subst hdd
  subst hxx
  refine wpAny_call (make_map (f:=f) I.kIn M.makes M.init (beq_iff_eq.mp M.fn) (codeAny_mono (F.run _ X.stack _ _ ⟨Value.ref (s.heap.objs.size + 1)::us,ks.zip ws⟩ zs _ (fun v H2=>v=.non/\Q (.ref (s.heap.objs.size + 1)) H2) (fun cls d H'=>W cls d σ H') (hr.make C us (ks.zip ws)) hg
    (I2.env0.make C us (ks.zip ws)) bt rz ⟨s.heap.objs.size + 1,_,_,so.drop,_,_,_,rfl,h0.drop,⟨rfl,_,[],upd_same,upd_same,.nil⟩,gx,So.drop_nt (rep.h.there nx),pk.drop,q,fun H' G' t p z=>⟨rfl,?_⟩,fun cls d H' G' fs p z1 z2=>?_⟩) fun r s' hz'=>?_))
  · have hb':HRep X.K G' so H':=h0.back p.ex p.hrep (fun a C o e nt ho=>p.keep a o ho nt (fun z=>by subst z;exact rep.h.there nx ⟨_,e⟩)) (fun a C e nt n g=>p.frm a n g nt fun z=>by subst z;exact rep.h.there nx ⟨_,e⟩)
    have nw:∀ a∈t.as,H a=none:=fun a m=>(p.new a m).elim (fun n=>by
      cases q3:H a with
      | none=>rfl
      | some o=>rw [kp a o q3] at n;cases n) fun z=>z ▸ nx
    have pv:PostVN X.K G so H (.ref (s.heap.objs.size + 1)) H' G' t:=
      ⟨⟨eg.trans p.ex,hb',fun a o e sa=>p.keep a o (kp a o e) (So.drop_nq sa) (ne_of_none e nx),fun a n1 g sa=>by
        have n2:a≠s.heap.objs.size + 1:=fun z=>by rw [z] at n1;exact n1 nx
        have n3:a≠s.heap.objs.size:=fun z=>by rw [z] at n1;exact n1 nd
        exact p.frm a (by rw [upd_ne n2,upd_ne n3];exact n1) (by rw [upd_ne n3];exact g) (So.drop_nt sa) n2⟩,p.ok,p.nod,fun a m=>⟨rep.h.there (nw a m),(p.own a m).2⟩,nw⟩
    exact hq _ H' _ _ sl (pv.slots rep) z
  · have hb':HRep X.K G' so H':=h0.back p.ex p.hrep (fun a C o e nt ho=>p.keep a o ho nt (fun z=>by subst z;exact rep.h.there nx ⟨_,e⟩)) (fun a C e nt n g=>p.frm a n g nt fun z=>by subst z;exact rep.h.there nx ⟨_,e⟩)
    have pn:PostV X.K G so H .non H' G' (.d .non):=⟨eg.trans p.ex,hb',fun a o e sa=>p.keep a o (kp a o e) (So.drop_nq sa) (ne_of_none e nx),fun a n1 g sa=>by
        have n2:a≠s.heap.objs.size + 1:=fun z=>by rw [z] at n1;exact n1 nx
        have n3:a≠s.heap.objs.size:=fun z=>by rw [z] at n1;exact n1 nd
        exact p.frm a (by rw [upd_ne n2,upd_ne n3];exact n1) (by rw [upd_ne n3];exact g) (So.drop_nt sa) n2,.non,fun _ _ e=>(nomatch e),fun _ e=>(nomatch e)⟩
    exact hx cls d H' G' fs sl (pn.slots rep).toPost z1 z2
  · cases r with
    | error e=>exact tk e s' (L2N.XE.of_call I2 (fun _ _ _ z=>z) hz')
    | ok fl=>
      cases fl with
      | ret u=>
        obtain ⟨v,H',I3,rv,ev,q3⟩:=I2.after hz'
        subst ev
        exact ⟨rv,⟨V.ref (s.heap.objs.size + 1),H',I3,rfl,q3⟩⟩
      | next=>exact False.elim hz'
      | brk=>exact False.elim hz'
      | cont=>exact False.elim hz'
end
section
variable {X:Cx} {W:WX} {k n:Nat} {f C:Addr} {fd:FuncData} {ps ks:List Str} {sp:SpN} {sel:List Sel} {x nm m:Str} {p pos apos kpos:Pos} {o e:Expr} {es:List Expr} {kws:List Keyword} {ta tk tk':TDA} {to te:TD} {pl:Sem Bool}
theorem agS (M:Mk X.K C f) (F:FnR X.prog X.w X.K X.mg X.base k f fd ps (upIN X.K C sp)) (hr:Room (k + 1) X.A) (hgd:X.A.guards=some []) (tk:L2N.Takes X W) (hb:Bd X.K fd ps (n + 1) [] (.pos 0::sel)) (hz:noZero sel=true) (hg:Gl X x) (hm:X.mg x=some (.ref C))
    (ha:DA X W (e::es) ta) (hdb:(x == ("__debug__":Str))=false:=by decide) (he:starEach (e::es) X.env=(false,eval e X.env)::starEach es X.env:=by rfl) (hpl:(backTo pos (starEach es X.env)).any (·.1)=false:=by rfl) :
    DN X W (.Call (.Name x p) (e::es) [] pos) (dMakeN sp n 0 sel ta dNil):=by
  refine ⟨fun pins s σ H Q I ⟨G,so,sl,Q',E,rep,q,hq,hx⟩=>wpAny_Call_Name_kw (ld_glob I hg hm ?_ hdb)⟩
  refine PySem.W.callWith_K (h₀:=X.base) I.ok.mod.kin M.kp (thn (ha.run pos pins s σ H (fun vs H1=>∃ G1 ds s1,Post X.K G so σ H sl H1 G1 s1/\VsOk X.K G1 so H1 vs ds/\ds.length=n/\sp (sel.map (pickD (.d .non::ds) [])) (fun v=>Q' v s1) fun cls fs=>E cls fs s1) I
    ⟨G,so,sl,_,E,rep,q,fun vs H1 G1 ds s1 p1 w z=>⟨G1,ds,s1,p1,w,z.1,z.2.2⟩,hx⟩) fun us s1 ⟨vs,H1,I1,r,G1,ds,sl1,p1,w,l1,z⟩=>⟨I1.kIn,?_⟩) he hpl
  exact aiV (ws:=[]) (qs:=[]) (es:=[]) M F hr hgd tk hb hz I1 p1.rep r .nil w .nil l1 rfl z (fun v H' G' dv sl' pe z'=>hq v H' G' dv sl' (p1.thenN pe) z') (hx.step p1)
theorem afk (M:Mk X.K C f) (F:FnR X.prog X.w X.K X.mg X.base k f fd ps (upIN X.K C sp)) (hr:Room (k + 1) X.A) (hgd:X.A.guards=some []) (tk:L2N.Takes X W) (hb:Bd X.K fd ps (n + 1) ks (.pos 0::sel)) (hz:noZero sel=true) (hg:Gl X x) (hm:X.mg x=some (.ref C))
    (ha:DA X W (e::es) ta) (hkw:DK X W kws tk') (hall:(backToKw pos (keywordEach kws X.env)).all (·.1.isSome)=true:=by rfl) (hks:(backToKw pos (keywordEach kws X.env)).filterMap (·.1)=ks:=by rfl) (hdb:(x == ("__debug__":Str))=false:=by decide)
    (he:starEach (e::es) X.env=(false,eval e X.env)::starEach es X.env:=by rfl) (hpl:((backTo pos (starEach (e::es) X.env)).any (·.1) || (backToKw pos (keywordEach kws X.env)).any (·.1.isNone))=false:=by rfl) :
    DN X W (.Call (.Name x p) (e::es) kws pos) (dMakeN sp n ks.length sel ta tk'):=by
  refine ⟨fun pins s σ H Q I ⟨G,so,sl,Q',E,rep,q,hq,hx⟩=>wpAny_Call_Name_kw (ld_glob I hg hm ?_ hdb)⟩
  refine PySem.W.callWith_KW (h₀:=X.base) I.ok.mod.kin M.kp hall (thn (ha.run pos pins s σ H (fun vs H1=>∃ G1 ds s1,Post X.K G so σ H sl H1 G1 s1/\VsOk X.K G1 so H1 vs ds/\tk' s1 (fun ys s2=>ds.length=n/\ys.length=ks.length/\sp (sel.map (pickD (.d .non::ds) ys)) (fun v=>Q' v s2) fun cls fs=>E cls fs s2) E) I
    ⟨G,so,sl,_,E,rep,q,fun vs H1 G1 ds s1 p1 w z=>⟨G1,ds,s1,p1,w,z⟩,hx⟩) fun us s1 ⟨vs,H1,I1,r,G1,ds,sl1,p1,w,z⟩=>?_) hpl he
  refine thn (hkw.run pos pins s1 σ H1 (fun qs H2=>∃ G2 es s2,Post X.K G1 so σ H1 sl1 H2 G2 s2/\VsOk X.K G2 so H2 qs es/\ds.length=n/\es.length=ks.length/\sp (sel.map (pickD (.d .non::ds) es)) (fun v=>Q' v s2) fun cls fs=>E cls fs s2) I1
    ⟨G1,so,sl1,_,E,p1.rep,z,fun qs H2 G2 es s2 p2 w2 z=>⟨G2,es,s2,p2,w2,z⟩,hx.step p1⟩) fun ws s2 ⟨qs,H2,I2,r2,G2,es,sl2,p2,w2,l1,l2,z⟩=>⟨I2.kIn,?_⟩
  rw [hks]
  exact aiV M F hr hgd tk hb hz I2 p2.rep r r2 (w.keep p2.ex p2.keep) w2 l1 l2 z (fun v H' G' dv sl' pe z'=>hq v H' G' dv sl' ((p1.trans p2).thenN pe) z') (hx.step (p1.trans p2))
end
def dMethN (sp:SpN) (C:Addr) (m:Str) (n l:Nat) (sel:List Sel) (to:TD) (ta tk:TDA):TDN:=fun sl Q E=>to sl (fun x s0=>match pubV x with
  | .d (.ins D fs)=>D=C/\fs.lookup m=none/\ta s0 (fun xs s1=>tk s1 (fun ys s2=>xs.length=n/\ys.length=l/\sp (sel.map (pickD (.d (.ins D fs)::xs) ys)) (fun v=>Q v s2) fun cls fs=>E cls fs s2) E) E
  | _=>False) E
section
variable {X:Cx} {W:WX} {k n:Nat} {f C:Addr} {fd:FuncData} {ps ks:List Str} {sp:SpN} {sel:List Sel} {x nm m:Str} {p pos apos kpos:Pos} {o e:Expr} {es:List Expr} {kws:List Keyword} {ta tk tk':TDA} {to te:TD} {pl:Sem Bool}
theorem apj (he:DE X W o to) (c:Cls X.K C) (hm:Meth X.K C m f) (F:FnR X.prog X.w X.K X.mg X.base k f fd ps (upSN X.K sp)) (hr:Room k X.A) (hgd:X.A.guards=some []) (tk:L2N.Takes X W) (hb:Bd X.K fd ps (n + 1) [] sel) (ha:DA X W (e::es) ta)
    (hst:starEach (e::es) X.env=(false,eval e X.env)::starEach es X.env:=by rfl) (hpl:(backTo pos (starEach es X.env)).any (·.1)=false:=by rfl)
    (ht:eval (.Call (.Attribute o m apos) (e::es) [] pos) X.env=(do
      let ov <- eval o X.env
      standAt apos.atName
      let (f,first) <- holding [ov] (getMethod ov m pl)
      callWith pos f first (backTo pos (starEach (e::es) X.env)) (backToKw pos (keywordEach [] X.env))):=by rfl) :
    DN X W (.Call (.Attribute o m apos) (e::es) [] pos) (dMethN sp C m n 0 sel to ta dNil):=by
  refine ⟨fun pins s σ H Q I ⟨G,so,sl,Q',E,rep,q,hq,hx⟩=>?_⟩
  refine PySem.W.methodCall_KW (pl:=pl) (thn (he.run pins s σ H (fun v H1=>∃ G1 s1 fs,PostE X.K G so σ H sl v H1 G1 (.d (.ins C fs)) s1/\fs.lookup m=none/\ta s1 (fun xs s2=>dNil s2 (fun ys s3=>xs.length=n/\ys.length=0/\sp (sel.map (pickD (.d (.ins C fs)::xs) ys)) (fun v=>Q' v s3) fun cls fs=>E cls fs s3) E) E) I
    ⟨G,so,sl,_,E,rep,q,fun v H1 G1 dv s1 p1 z=>?_,hx⟩) fun u s1 ⟨x,H1,I1,rx,G1,sl1,fs,p1,l,z⟩=>?_) ht
  · obtain ⟨G2,p2⟩:=p1.pub
    split at z
    · rename_i D fs ed
      obtain ⟨rfl,l,z⟩:=z
      exact ⟨G2,s1,fs,by rw [<- ed];exact p2,l,z⟩
    · exact z.elim
  · obtain ⟨a,dx,vs,ex,ea,fa⟩:=VOk.inst p1.rep.h p1.val rfl
    subst ex
    obtain rfl:u=Value.ref a:=rx
    refine getmeth_ok I1 ea c hm (fa.lookN l) ?_
    refine PySem.W.callWith_K (first:=[.ref a]) (h₀:=X.base) I.ok.mod.kin hm.kp (thn (ha.run pos pins s1 σ H1 (fun vs H2=>∃ G2 ds s2,Post X.K G1 so σ H1 sl1 H2 G2 s2/\VsOk X.K G2 so H2 vs ds/\ds.length=n/\sp (sel.map (pickD (.d (.ins C fs)::ds) [])) (fun v=>Q' v s2) fun cls fs=>E cls fs s2) I1
      ⟨G1,so,sl1,_,E,p1.rep,z,fun vs H2 G2 ds s2 p2 w z=>⟨G2,ds,s2,p2,w,z.1,z.2.2⟩,hx.step p1.toPost⟩) fun us s2 ⟨vs2,H2,I2,r,G2,ds,sl2,p2,w,l1,z⟩=>⟨I2.kIn,?_⟩) hst hpl
    exact ahX (us:=.ref a::us) (vs:=.ref a::vs2) (ds:=.d (.ins C fs)::ds) (ws:=[]) (qs:=[]) (es:=[]) F hr hgd tk hb I2 p2.rep (.cons rfl r) .nil (.cons (p1.over p2) (fun _ e=>(nomatch e)) w) .nil (by rw [List.length_cons,l1]) rfl z (fun v H' G' dv sl' pe z'=>hq v H' G' dv sl' ((p1.toPost.trans p2).thenN pe) z') (hx.step (p1.toPost.trans p2))
theorem anu (he:DE X W o to) (c:Cls X.K C) (hm:Meth X.K C m f) (F:FnR X.prog X.w X.K X.mg X.base k f fd ps (upSN X.K sp)) (hr:Room k X.A) (hgd:X.A.guards=some []) (tk:L2N.Takes X W) (hb:Bd X.K fd ps (0 + 1) [] sel)
    (ht:eval (.Call (.Attribute o m apos) [] [] pos) X.env=(do
      let ov <- eval o X.env
      standAt apos.atName
      let (f,first) <- holding [ov] (getMethod ov m pl)
      callWith pos f first (backTo pos (starEach [] X.env)) (backToKw pos (keywordEach [] X.env))):=by rfl) :
    DN X W (.Call (.Attribute o m apos) [] [] pos) (dMethN sp C m 0 0 sel to dNil dNil):=by
  refine ⟨fun pins s σ H Q I ⟨G,so,sl,Q',E,rep,q,hq,hx⟩=>?_⟩
  refine PySem.W.methodCall_KW (pl:=pl) (thn (he.run pins s σ H (fun v H1=>∃ G1 s1 fs,PostE X.K G so σ H sl v H1 G1 (.d (.ins C fs)) s1/\fs.lookup m=none/\sp (sel.map (pickD [.d (.ins C fs)] [])) (fun v=>Q' v s1) fun cls fs=>E cls fs s1) I
    ⟨G,so,sl,_,E,rep,q,fun v H1 G1 dv s1 p1 z=>?_,hx⟩) fun u s1 ⟨x,H1,I1,rx,G1,sl1,fs,p1,l,z⟩=>?_) ht
  · obtain ⟨G2,p2⟩:=p1.pub
    split at z
    · rename_i D fs ed
      obtain ⟨rfl,l,z⟩:=z
      exact ⟨G2,s1,fs,by rw [<- ed];exact p2,l,z.2.2⟩
    · exact z.elim
  · obtain ⟨a,dx,vs,ex,ea,fa⟩:=VOk.inst p1.rep.h p1.val rfl
    subst ex
    obtain rfl:u=Value.ref a:=rx
    refine getmeth_ok I1 ea c hm (fa.lookN l) ?_
    exact PySem.W.callWith_K0 (first:=[.ref a]) I1.kIn hm.kp (ahX (us:=[.ref a]) (vs:=[.ref a]) (ds:=[.d (.ins C fs)]) (ws:=[]) (qs:=[]) (es:=[]) F hr hgd tk hb I1 p1.rep (.cons rfl .nil) .nil (.cons p1.val (fun _ e=>(nomatch e)) .nil) .nil rfl rfl z (fun v H' G' dv sl' pe z'=>hq v H' G' dv sl' (p1.toPost.thenN pe) z') (hx.step p1.toPost))
theorem ams (he:DE X W o to) (c:Cls X.K C) (hm:Meth X.K C m f) (F:FnR X.prog X.w X.K X.mg X.base k f fd ps (upSN X.K sp)) (hr:Room k X.A) (hgd:X.A.guards=some []) (tk:L2N.Takes X W) (hb:Bd X.K fd ps (0 + 1) ks sel) (hkw:DK X W kws tk')
    (hall:(backToKw pos (keywordEach kws X.env)).all (·.1.isSome)=true:=by rfl) (hks:(backToKw pos (keywordEach kws X.env)).filterMap (·.1)=ks:=by rfl)
    (hpl:((backTo pos (starEach [] X.env)).any (·.1) || (backToKw pos (keywordEach kws X.env)).any (·.1.isNone))=false:=by rfl)
    (ht:eval (.Call (.Attribute o m apos) [] kws pos) X.env=(do
      let ov <- eval o X.env
      standAt apos.atName
      let (f,first) <- holding [ov] (getMethod ov m pl)
      callWith pos f first (backTo pos (starEach [] X.env)) (backToKw pos (keywordEach kws X.env))):=by rfl) :
    DN X W (.Call (.Attribute o m apos) [] kws pos) (dMethN sp C m 0 ks.length sel to dNil tk'):=by
  refine ⟨fun pins s σ H Q I ⟨G,so,sl,Q',E,rep,q,hq,hx⟩=>?_⟩
  refine PySem.W.methodCall_KW (pl:=pl) (thn (he.run pins s σ H (fun v H1=>∃ G1 s1 fs,PostE X.K G so σ H sl v H1 G1 (.d (.ins C fs)) s1/\fs.lookup m=none/\tk' s1 (fun ys s3=>([]:List DV).length=0/\ys.length=ks.length/\sp (sel.map (pickD [.d (.ins C fs)] ys)) (fun v=>Q' v s3) fun cls fs=>E cls fs s3) E) I
    ⟨G,so,sl,_,E,rep,q,fun v H1 G1 dv s1 p1 z=>?_,hx⟩) fun u s1 ⟨x,H1,I1,rx,G1,sl1,fs,p1,l,z⟩=>?_) ht
  · obtain ⟨G2,p2⟩:=p1.pub
    split at z
    · rename_i D fs ed
      obtain ⟨rfl,l,z⟩:=z
      exact ⟨G2,s1,fs,by rw [<- ed];exact p2,l,z⟩
    · exact z.elim
  · obtain ⟨a,dx,vs,ex,ea,fa⟩:=VOk.inst p1.rep.h p1.val rfl
    subst ex
    obtain rfl:u=Value.ref a:=rx
    refine getmeth_ok I1 ea c hm (fa.lookN l) ?_
    refine PySem.W.callWith_KW0 (first:=[.ref a]) (h₀:=X.base) I.ok.mod.kin hm.kp hall ?_ hpl
    refine thn (hkw.run pos pins s1 σ H1 (fun qs H3=>∃ G3 es s3,Post X.K G1 so σ H1 sl1 H3 G3 s3/\VsOk X.K G3 so H3 qs es/\es.length=ks.length/\sp (sel.map (pickD [.d (.ins C fs)] es)) (fun v=>Q' v s3) fun cls fs=>E cls fs s3) I1
      ⟨G1,so,sl1,_,E,p1.rep,z,fun qs H3 G3 es s3 p3 w3 z=>⟨G3,es,s3,p3,w3,z.2.1,z.2.2⟩,hx.step p1.toPost⟩) fun ws s3 ⟨qs,H3,I3,r2,G3,es,sl3,p3,w3,l2,z⟩=>⟨I3.kIn,?_⟩
    rw [hks]
    exact ahX (us:=[.ref a]) (vs:=[.ref a]) (ds:=[.d (.ins C fs)]) F hr hgd tk hb I3 p3.rep (.cons rfl .nil) r2 (.cons (p1.over p3) (fun _ e=>(nomatch e)) .nil) w3 rfl l2 z (fun v H' G' dv sl' pe z'=>hq v H' G' dv sl' ((p1.toPost.trans p3).thenN pe) z') (hx.step (p1.toPost.trans p3))
end
def FT.nameF:List (Str × FT)->List FT->List (Str × FT)
  | (f,_)::r,y::ys=>(f,y)::FT.nameF r ys
  | _,_=>[]
def getP:Fl->List Nat->Option FT
  | _,[]=>none
  | fl,[k]=>fl[k]?
  | fl,k::j::r=>match fl[k]? with
    | some (.lst _ xs)=>getP xs (j::r)
    | some (.ins _ _ fs)=>getP (fs.map (·.2)) (j::r)
    | _=>none
def setP:Fl->List Nat->FT->Fl
  | fl,[],_=>fl
  | fl,[k],t=>fl.set k t
  | fl,k::j::r,t=>match fl[k]? with
    | some (.lst a xs)=>fl.set k (.lst a (setP xs (j::r) t))
    | some (.ins a C fs)=>fl.set k (.ins a C (FT.nameF fs (setP (fs.map (·.2)) (j::r) t)))
    | _=>fl
theorem amW:∀ (p:List Nat) (fl:Fl) (t:FT),(setP fl p t).length=fl.length
  | [],fl,t=>by unfold setP;rfl
  | [k],fl,t=>by unfold setP;rw [List.length_set]
  | k::j::r,fl,t=>by
    unfold setP
    split
    · rw [List.length_set]
    · rw [List.length_set]
    · rfl
theorem aix:∀ (fs:List (Str × FT)),FT.asF fs=FT.asL (fs.map (·.2))
  | []=>by rw [FT.asF,List.map_nil,FT.asL]
  | (f,x)::r=>by rw [FT.asF,List.map_cons,FT.asL,aix r]
theorem ajb:∀ (fs:List (Str × FT)) (ys:List FT),ys.length=fs.length->(FT.nameF fs ys).map (·.2)=ys
  | [],[],_=>rfl
  | (f,x)::r,y::ys,h=>by
    rw [FT.nameF,List.map_cons,ajb r ys (by simpa using h)]
  | [],_::_,h=>by simp at h
  | _::_,[],h=>by simp at h
section
variable {K:PySem.W.Frag} {G H H':Hp}
theorem FOkF.vals:∀ {vs:List (Str × V)} {fs:List (Str × FT)},FOkF K G H vs fs->FOkL K G H (vs.map (·.2)) (fs.map (·.2))
  | _,_,.nil=>.nil
  | _,_,.cons h r=>.cons h (FOkF.vals r)
theorem FOkF.name:∀ {vs:List (Str × V)} {fs:List (Str × FT)} {ys:List FT},FOkF K G H vs fs->FOkL K G H' (vs.map (·.2)) ys->FOkF K G H' vs (FT.nameF fs ys)
  | _,_,_,.nil,h=>by cases h;exact .nil
  | _,_,_,.cons h r,q=>by
    cases q with
    | cons q1 q2=>exact .cons q1 (FOkF.name r q2)
theorem place:∀ (k:Nat) {vs:List V} {fl:Fl} {t:FT},FOkL K G H vs fl->fl[k]?=some t->∃ v R,vs[k]?=some v/\FOk K G H v t/\(FT.asL fl).Perm (t.as++R)/\∀ t',(FT.asL (fl.set k t')).Perm (t'.as++R)/\∀ H',(∀ b∈R,H' b=H b)->FOk K G H' v t'->FOkL K G H' vs (fl.set k t')
  | 0,_,_,_,.cons (vs:=us) (x:=x) (xs:=r) h q,e=>by
    simp at e;subst e
    refine ⟨_,FT.asL r,rfl,h,by rw [aaq],fun t'=>⟨by rw [List.set_cons_zero,aaq],fun H' kp w=>.cons w (q.keep (Ex.refl G) kp)⟩⟩
  | k + 1,_,_,_,.cons (x:=x) (xs:=r) h q,e=>by
    obtain ⟨v,R,e1,e2,e3,e4⟩:=place k q (by simpa using e)
    refine ⟨v,x.as++R,by simpa using e1,e2,?_,fun t'=>⟨?_,fun H' kp w=>.cons (h.keep (Ex.refl G) fun b m=>kp b (List.mem_append_left _ m)) ((e4 t').2 H' (fun b m=>kp b (List.mem_append_right _ m)) w)⟩⟩
    · rw [aaq]
      exact (List.Perm.append_left _ e3).trans (by rw [<- List.append_assoc,<- List.append_assoc];exact List.Perm.append_right _ List.perm_append_comm)
    · rw [List.set_cons_succ,aaq]
      exact (List.Perm.append_left _ (e4 t').1).trans (by rw [<- List.append_assoc,<- List.append_assoc];exact List.Perm.append_right _ List.perm_append_comm)
  | _,_,_,_,.nil,e=>by simp at e
theorem aeV:∀ (p:List Nat) {vs:List V} {fl:Fl} {t:FT},FOkL K G H vs fl->(FT.asL fl).Nodup->getP fl p=some t->∃ v R,FOk K G H v t/\(FT.asL fl).Perm (t.as++R)/\∀ t',(FT.asL (setP fl p t')).Perm (t'.as++R)/\∀ H',(∀ b∈R,H' b=H b)->FOk K G H' v t'->FOkL K G H' vs (setP fl p t')
  | [],_,_,_,_,_,e=>by unfold getP at e;cases e
  | [k],vs,fl,t,h,nd,e=>by
    unfold getP at e
    obtain ⟨v,R,_,e2,e3,e4⟩:=place k h e
    refine ⟨v,R,e2,e3,fun t'=>?_⟩
    unfold setP
    exact e4 t'
  | k::j::r,vs,fl,t,h,nd,e=>by
    unfold getP at e
    split at e
    · rename_i a xs ek
      obtain ⟨w,R,_,e2,e3,e4⟩:=place k h ek
      cases e2 with
      | lst ha hx=>
        rename_i us
        have n1:=(List.nodup_append.mp (e3.nodup_iff.mp nd)).1
        rw [FT.as,List.nodup_cons] at n1
        obtain ⟨v,R2,f2,f3,f4⟩:=aeV (j::r) hx n1.2 e
        refine ⟨v,a::R2++R,f2,e3.trans ?_,fun t'=>?_⟩
        · rw [FT.as]
          show (a::(FT.asL xs++R)).Perm _
          exact ((List.Perm.append_right R f3).cons a).trans (by rw [List.append_assoc];exact List.perm_middle.symm)
        · have es:setP fl (k::j::r) t'=fl.set k (.lst a (setP xs (j::r) t')):=by rw [setP];split<;>simp_all
          rw [es]
          refine ⟨(e4 _).1.trans ?_,fun H' kp w2=>(e4 _).2 H' (fun b m=>kp b (List.mem_append_right _ m)) (.lst (by rw [kp a (by simp)];exact ha) ((f4 t').2 H' (fun b m=>kp b (List.mem_append_left _ (List.mem_cons_of_mem _ m))) w2))⟩
          rw [FT.as]
          show (a::(FT.asL (setP xs (j::r) t')++R)).Perm _
          exact ((List.Perm.append_right R (f4 t').1).cons a).trans (by rw [List.append_assoc];exact List.perm_middle.symm)
    · rename_i a C fs ek
      obtain ⟨w,R,_,e2,e3,e4⟩:=place k h ek
      cases e2 with
      | ins ha hg hx=>
        rename_i dx us
        have n1:=(List.nodup_append.mp (e3.nodup_iff.mp nd)).1
        rw [FT.as,List.nodup_cons,aix] at n1
        obtain ⟨v,R2,f2,f3,f4⟩:=aeV (j::r) hx.vals n1.2 e
        refine ⟨v,a::R2++R,f2,e3.trans ?_,fun t'=>?_⟩
        · rw [FT.as,aix]
          show (a::(FT.asL (fs.map (·.2))++R)).Perm _
          exact ((List.Perm.append_right R f3).cons a).trans (by rw [List.append_assoc];exact List.perm_middle.symm)
        · have es:setP fl (k::j::r) t'=fl.set k (.ins a C (FT.nameF fs (setP (fs.map (·.2)) (j::r) t'))):=by rw [setP];split<;>simp_all
          have ln:(setP (fs.map (·.2)) (j::r) t').length=fs.length:=by rw [amW,List.length_map]
          rw [es]
          refine ⟨(e4 _).1.trans ?_,fun H' kp w2=>(e4 _).2 H' (fun b m=>kp b (List.mem_append_right _ m)) (.ins (by rw [kp a (by simp)];exact ha) hg (hx.name ((f4 t').2 H' (fun b m=>kp b (List.mem_append_left _ (List.mem_cons_of_mem _ m))) w2)))⟩
          rw [FT.as,aix,ajb _ _ ln]
          show (a::(FT.asL (setP (fs.map (·.2)) (j::r) t')++R)).Perm _
          exact ((List.Perm.append_right R (f4 t').1).cons a).trans (by rw [List.append_assoc];exact List.perm_middle.symm)
    · cases e
end
def noBl:DSt->Bool
  | []=>true
  | some (.bor (.lst _))::_=>false
  | some (.bor (.ins _ _ _))::_=>false
  | _::r=>noBl r
theorem noBl_get:∀ {sl:DSt} {j:Nat} {o:OO},noBl sl=true->sl[j]?=some (some (.bor o))->(∃ ks,o=.dk ks)\/∃ ks,o=.dt ks
  | [],j,_,_,e=>by simp at e
  | z::r,0,o,h,e=>by
    simp at e;subst e
    cases o with
    | dk ks=>exact .inl ⟨ks,rfl⟩
    | dt ks=>exact .inr ⟨ks,rfl⟩
    | lst _=>cases h
    | ins _ _ _=>cases h
  | z::r,j + 1,o,h,e=>by
    refine noBl_get (sl:=r) (j:=j) ?_ (by simpa using e)
    unfold noBl at h
    split at h
    · rename_i q;cases q
    · cases h
    · cases h
    · rename_i q;cases q;exact h
section
variable {K:PySem.W.Frag} {W:WX} {G G1:Hp} {so:So} {σ:L2.St} {H H1:Hp} {sl s1:DSt} {fl f1:Fl} {v:V} {t:FT} {p:List Nat}
theorem FlOk.at (h:FlOk K G so σ H sl fl) (e:getP fl p=some t):∃ v,FOk K G H v t:=by
  obtain ⟨vs,k⟩:=h.ok
  obtain ⟨v,_,f,_⟩:=aeV p k h.nod e
  exact ⟨v,f⟩
theorem Rep.updF {a:Addr} {u:HO} (r:Rep K G so σ H sl) (li:LiA H a) (n:so.Nt a) (g:G a=none) (w:¬ Own sl σ a) (nb:noBl sl=true) (nt:∀ xs,u≠.tup xs):Rep K G so σ (upd H a u) sl:=by
  refine ⟨⟨fun b o q=>by rw [upd_ne (ne_of_none q g)];exact r.h.ex b o q,fun b k q=>(r.h.vol b k q).keep (Ex.refl G) (r.h.vol b k q).g (upd_ne fun z=>n (z ▸ ⟨k,q⟩)),r.h.ok,aea r.h.tp nt⟩,r.len,fun i dv e=>?_,r.sep,r.bor,r.nse⟩
  obtain ⟨x,e1,e2⟩:=r.slots i dv e
  refine ⟨x,e1,?_⟩
  cases dv with
  | d z=>exact e2
  | src=>exact e2
  | own o=>
    obtain ⟨b,rfl,q2,q3,q4⟩:=e2
    exact ⟨b,rfl,q2,q3,q4.keep (Ex.refl G) (upd_ne fun z=>w (z ▸ ⟨i,o,e,e1⟩))⟩
  | bor o=>
    obtain ⟨b,rfl,q2,q3⟩:=e2
    refine ⟨b,rfl,q2,q3.keep (Ex.refl G) (upd_ne fun z=>?_)⟩
    subst z
    rcases li with ⟨zs,k⟩ | ⟨C,dx,zs,k⟩
    · rcases noBl_get nb e with ⟨ks,rfl⟩ | ⟨ks,rfl⟩<;>(obtain ⟨_,_,y,_⟩:=q3;rw [k] at y;cases y)
    · rcases noBl_get nb e with ⟨ks,rfl⟩ | ⟨ks,rfl⟩<;>(obtain ⟨_,_,y,_⟩:=q3;rw [k] at y;cases y)
  | see o=>exact absurd e (r.nse i o)
  | mu y C fs=>exact SlOk.muU e2 (Ex.refl G) n
  | gh y gr=>exact SlOk.ghU e2 (Ex.refl G) n
theorem ah9 {a:Addr} {u:HO} {x t':FT} {S:List Addr} (r:Rep K G so σ H sl) (fo:FlOk K G so σ H sl (x::fl)) (e:getP fl p=some t) (ha:a∈t.as) (nb:noBl sl=true) (nt:∀ xs,u≠.tup xs) (pm:(x.as++t.as).Perm (t'.as++S)) (w:∀ v,FOk K G H v t->FOk K G (upd H a u) v t') :
    PostF K G so σ H sl (x::fl) σ (upd H a u) G sl (setP fl p t'):=by
  obtain ⟨vs,k⟩:=fo.tail.ok
  have nd:=fo.nod
  rw [aaq] at nd
  obtain ⟨v,R,f1,f2,f3⟩:=aeV p k fo.tail.nod e
  have ai:a∈FT.asL (x::fl):=by rw [aaq];exact List.mem_append_right _ (f2.mem_iff.mpr (List.mem_append_left _ ha))
  obtain ⟨n,g,ow⟩:=fo.own a ai
  have nR:a∉R:=fun m=>(List.nodup_append.mp (f2.nodup_iff.mp fo.tail.nod)).2.2 a ha a m rfl
  obtain ⟨p1,p2⟩:=f3 t'
  have all:(x.as++FT.asL fl).Perm (t'.as++R++S):=by
    have q1:=List.Perm.append_left x.as f2
    have q2:=List.Perm.append_right R pm
    have q3:(t'.as++(S++R)).Perm (t'.as++(R++S)):=List.Perm.append_left t'.as List.perm_append_comm
    rw [<- List.append_assoc] at q1
    rw [List.append_assoc t'.as] at q2
    rw [List.append_assoc]
    exact q1.trans (q2.trans q3)
  have nd2:=(List.nodup_append.mp (all.nodup_iff.mp nd)).1
  have sub:∀ b∈FT.asL (setP fl p t'),b∈FT.asL (x::fl):=fun b m=>by
    rw [aaq]
    exact all.mem_iff.mpr (List.mem_append_left _ (p1.mem_iff.mp m))
  refine ⟨Ex.refl G,r.updF (FOk.li f1 a ha) n g ow nb nt,⟨⟨vs,p2 _ (fun b m=>upd_ne (fun (z:b=a)=>nR (by rw [<- z];exact m))) (w v f1)⟩,p1.nodup_iff.mpr nd2,fun b m=>fo.own b (sub b m)⟩,fun b o eb _ _ z=>by rw [upd_ne (fun (y:b=a)=>z (by rw [y];exact ai))];exact eb,fun b _ gb _ _ _=>gb,fun b _ _ wb z=>⟨wb,fun m=>z (sub b m)⟩,rfl⟩
end
abbrev TP:=DSt->Fl->(Addr->Prop)->Prop
def upP (K:PySem.W.Frag) (t:TP):TE:=fun σ H R=>∃ G so sl fl Q,Rep K G so σ H sl/\FlOk K G so σ H sl fl/\t sl fl Q/\∀ a,Q a->R (.ref a) H
def FP (X:Cx) (e:Expr) (t:TP):Prop:=PE X e (upP X.K t)
def pVar (i:Nat):TP:=fun sl _ Q=>∃ a,sl[i]?=some (some (.d (.raw (.ref a))))/\Q a
def pIx (t:TP) (n:Int):TP:=fun sl fl Q=>t sl fl fun a=>∃ p xs x b,getP fl p=some (.lst a xs)/\atI xs n=some x/\x.top=.raw (.ref b)/\Q b
section
variable {K:PySem.W.Frag} {G H:Hp}
theorem FOk.root' {v:V} {x:FT} {b:Addr} (h:FOk K G H v x) (e:x.top=.raw (.ref b)):v=.ref b:=by
  cases h with
  | leaf h=>unfold FT.top at e;subst e;cases h;rfl
  | lst h r=>unfold FT.top at e;cases e;rfl
  | ins h g r=>unfold FT.top at e;cases e;rfl
theorem FOkL.get:∀ {vs:List V} {xs:List FT} {i:Nat} {x:FT},FOkL K G H vs xs->xs[i]?=some x->∃ v,vs[i]?=some v/\FOk K G H v x
  | _,_,_,_,.nil,e=>by simp at e
  | _,_,0,_,.cons h _,e=>by simp at e;subst e;exact ⟨_,rfl,h⟩
  | _,_,i + 1,_,.cons _ t,e=>by
    obtain ⟨v,h1,h2⟩:=FOkL.get (i:=i) t (by simpa using e)
    exact ⟨v,by simpa using h1,h2⟩
theorem FOkL.atN {vs:List V} {xs:List FT} {n:Int} {x:FT} (h:FOkL K G H vs xs) (e:atI xs n=some x):∃ v,atI vs n=some v/\FOk K G H v x:=by
  unfold atI at e ⊢
  rw [h.len]
  obtain ⟨j,e1,e2⟩:=Option.bind_eq_some_iff.mp e
  obtain ⟨v,k1,k2⟩:=h.get e2
  exact ⟨v,by rw [e1];exact k1,k2⟩
end
section
variable {X:Cx} {W:WX} {o key e value:Expr} {tp:TP} {te tk:TFE} {i:Nat} {n:Int} {C:Addr} {f g:Str} {pos pos':Pos}
theorem agP (ho:PE X o (tVar i)):FP X o (pVar i):=aaD ho fun σ H R ⟨G,so,sl,fl,Q,rep,fo,⟨a,e,q⟩,hq⟩=>by
  obtain ⟨v,e1,e2⟩:=rep.slots i _ e
  obtain rfl:v=.ref a:=by cases e2;rfl
  exact ⟨_,e1,hq a q⟩
theorem anm (h:FP X o tp) (hk:PE X key (tC (.int n))) (hp:PlainIx key):FP X (.Subscript o key pos) (pIx tp n):=aaD (pe_ix ix_list h hk hp) fun σ H R ⟨G,so,sl,fl,Q,rep,fo,q,hq⟩=>
  ⟨G,so,sl,fl,_,rep,fo,q,fun a ⟨p,xs,x,b,e1,e2,e3,z⟩=>by
    obtain ⟨v,w⟩:=fo.at e1
    cases w with
    | lst ha hx=>
      obtain ⟨y,k1,k2⟩:=hx.atN e2
      obtain rfl:=k2.root' e3
      exact ⟨a,_,n,.ref b,rfl,rfl,SqL.of ha,k1,hq b z⟩⟩
def fApp (tp:TP) (te:TFE):TDF:=fun E sl fl=>tp sl fl fun a=>(∃ p xs,getP fl p=some (.lst a xs))/\te sl fl (fun x s f=>∃ p xs,getP f p=some (.lst a xs)/\noBl s=true/\xs.length < szl/\E.nx s (setP f p (.lst a (xs++[x])))) E.xc
theorem akB (ho:FP X o tp) (hv:FE X W value te) (hbase:attributeBase o "append" X.env (eval o X.env)=eval o X.env:=by rfl)
    (hfew:((backTo pos (starEach [value] X.env)).all (fun x=>!x.1) && (backToKw pos (keywordEach [] X.env)).all (fun x=>x.1.isSome)
      && decide ([value].length + ([]:List Keyword).length + (if ([]:List Keyword).isEmpty then 0 else 1) < 30))=true:=by rfl)
    (hline:(pos'.endLine == pos.line)=true:=by rfl) (hs:starEach [value] X.env=(false,eval value X.env)::starEach [] X.env:=by rfl) (hplain:(backTo pos (starEach [] X.env)).any (·.1)=false:=by rfl) {spos:Pos}
    (hsw:swapsWith (.Call (.Attribute o "append" pos') [value] [] pos) none spos.line X.env=pure false:=by rfl) :
    FS X W (.Expr (.Call (.Attribute o "append" pos') [value] [] pos) spos) (fApp tp te):=by
  refine adp (ps_expr (pe_bm PySem.F.plainAttrs_list PySem.F.slot_list_append PySem.F.type_list_append mt_append ho (pa_cons hv pa_nil hs) hbase hfew hline hs hplain) hsw) fun D σ H ⟨G,so,sl,fl,E,rep,fo,q,ok⟩=>?_
  refine ⟨G,so,sl,fl,_,rep,fo,q,fun a ⟨⟨p0,xs0,e0⟩,q⟩=>?_⟩
  obtain ⟨v0,w0⟩:=fo.at e0
  cases w0 with
  | lst h0 _=>
    refine ⟨.inl ⟨rfl,_,SqL.of h0⟩,?_⟩
    refine ⟨G,so,sl,fl,_,E.xc,rep,fo,q,fun y H1 G1 x s1 f1 p1 z=>?_,ok.xc⟩
    obtain ⟨p,xs,e1,nb,l,z⟩:=z
    obtain ⟨v1,w1⟩:=p1.flo.tail.at e1
    cases w1 with
    | lst h1 hx=>
      rename_i us
      refine ⟨a,us,y,rfl,rfl,h1,by rw [hx.len];exact l,?_⟩
      have nd:=p1.flo.nod
      rw [aaq] at nd
      obtain ⟨vs,kk⟩:=p1.flo.tail.ok
      obtain ⟨v2,R,g1,g2,_⟩:=aeV p kk p1.flo.tail.nod e1
      have nt:=(List.nodup_append.mp (g2.nodup_iff.mp p1.flo.tail.nod)).1
      rw [FT.as,List.nodup_cons] at nt
      have nx:a∉x.as:=fun m=>(List.nodup_append.mp nd).2.2 a m a (g2.mem_iff.mpr (List.mem_append_left _ (by rw [FT.as];exact List.mem_cons_self ..))) rfl
      have pu:=ah9 (a:=a) (u:=.lst (us++[y])) (x:=x) (t':=.lst a (xs++[x])) (S:=[]) p1.rep p1.flo e1 (by rw [FT.as];exact List.mem_cons_self ..) nb (fun _ z=>nomatch z) (by
        rw [FT.as,FT.as,acq,FT.asL,FT.asL,List.append_nil,List.append_nil]
        exact List.perm_append_comm) fun v hv=>by
          cases hv with
          | lst h2 hx2=>
            rw [h1] at h2;cases h2
            exact .lst upd_same ((hx2.keep (Ex.refl _) fun b m=>upd_ne (fun (z:b=a)=>nt.1 (by rw [<- z];exact m))).app (.cons (p1.val.keep (Ex.refl _) fun b m=>upd_ne (fun (z:b=a)=>nx (by rw [<- z];exact m))) .nil))
      exact ok.nx σ _ G1 s1 _ (p1.toPostF.trans pu) z
end
section
variable {K:PySem.W.Frag} {W:WX} {G G1 G2:Hp} {so:So} {σ σ1:L2.St} {H H1 H2:Hp} {sl s1 s2:DSt} {fl f1 f2:Fl} {v:V} {t x:FT} {xs:List FT}
theorem PostF.hide (fo:FlOk K G so σ H sl (xs++fl)) (p:PostF K G so σ H sl fl σ1 H1 G1 s1 f1):PostF K G so σ H sl (xs++fl) σ1 H1 G1 s1 (xs++f1)/\(∀ a∈FT.asL xs,H1 a=H a):=by
  have nd:=fo.nod
  rw [acq] at nd
  have nd:=List.nodup_append.mp nd
  have mx:∀ a∈FT.asL xs,a∈FT.asL (xs++fl):=fun a m=>by rw [acq];exact List.mem_append_left _ m
  have nf:∀ a∈FT.asL xs,a∉FT.asL fl:=fun a m z=>nd.2.2 a m a z rfl
  have kx:∀ a∈FT.asL xs,H1 a=H a:=fun a m=>by
    obtain ⟨o,e⟩:=Option.ne_none_iff_exists'.mp (fo.there (mx a m))
    obtain ⟨s,g,w⟩:=fo.own a (mx a m)
    rw [e,p.keep a o e s w (nf a m)]
  have sx:∀ a∈FT.asL xs,¬ Own s1 σ1 a/\a∉FT.asL f1:=fun a m=>p.sub a (fo.there (mx a m)) (fo.own a (mx a m)).1 (fo.own a (mx a m)).2.2 (nf a m)
  have out:∀ a,a∉FT.asL (xs++fl)->a∉FT.asL fl:=fun a z m=>z (by rw [acq];exact List.mem_append_right _ m)
  refine ⟨⟨p.ex,p.rep,⟨?_,?_,fun a m=>?_⟩,fun a o e s w z=>p.keep a o e s w (out a z),fun a n g s w z=>p.frm a n g s w (out a z),fun a n s w z=>⟨(p.sub a n s w (out a z)).1,fun m=>?_⟩,p.ln⟩,kx⟩
  · obtain ⟨us,q⟩:=fo.ok
    obtain ⟨us1,q1⟩:=p.flo.ok
    have cutL:∀ {xs:List FT} {us:List V},FOkL K G H us (xs++fl)->∃ ws,FOkL K G H ws xs:=by
      intro xs
      induction xs with
      | nil=>exact fun _=>⟨[],.nil⟩
      | cons y r ih=>
        intro us h
        cases h with
        | cons h1 h2=>
          obtain ⟨ws,q⟩:=ih h2
          exact ⟨_,.cons h1 q⟩
    obtain ⟨ws,q2⟩:=cutL q
    exact ⟨_,(q2.keep p.ex kx).app q1⟩
  · rw [acq]
    exact List.nodup_append.mpr ⟨nd.1,p.flo.nod,fun y hy z hz e=>(sx y hy).2 (e ▸ hz)⟩
  · rw [acq] at m
    rcases List.mem_append.mp m with m | m
    · exact ⟨(fo.own a (mx a m)).1,p.frm a (fo.there (mx a m)) (fo.own a (mx a m)).2.1 (fo.own a (mx a m)).1 (fo.own a (mx a m)).2.2 (nf a m),(sx a m).1⟩
    · exact p.flo.own a m
  · rw [acq] at m
    rcases List.mem_append.mp m with m | m
    · exact z (mx a m)
    · exact (p.sub a n s w (out a z)).2 m
theorem PostF.hide1 (fo:FlOk K G so σ H sl (x::fl)) (p:PostF K G so σ H sl fl σ1 H1 G1 s1 f1):PostF K G so σ H sl (x::fl) σ1 H1 G1 s1 (x::f1)/\(∀ a∈x.as,H1 a=H a):=by
  obtain ⟨h1,h2⟩:=PostF.hide (xs:=[x]) fo p
  exact ⟨h1,fun a m=>h2 a (by rw [aaq];exact List.mem_append_left _ m)⟩
theorem PostF.alloc {l:Addr} {u:HO} {y:FT} {vs:List V} (p:PostF K G so σ H sl fl σ1 H1 G1 s1 (xs++f1)) (n:H1 l=none) (ey:y.as=l::FT.asL xs) (ok:FOk K G1 (upd H1 l u) v y) (nt:∀ zs,u≠.tup zs) :
    PostF K G so σ H sl fl σ1 (upd H1 l u) G1 s1 (y::f1):=by
  have k:∀ a o,H1 a=some o->upd H1 l u a=some o:=fun a o e=>Ex.new n a o e
  have ff:∀ a∈FT.asL (xs++f1),a≠l:=fun a m z=>p.flo.there m (z ▸ n)
  have asy:FT.asL (y::f1)=l::FT.asL (xs++f1):=by rw [aaq,ey,acq];rfl
  have nl:so.Nt l:=p.rep.h.there n
  have ownl:¬ Own s1 σ1 l:=fun w=>(p.rep.nown w).1 n
  refine ⟨p.ex,⟨p.rep.h.alloc n nt,p.rep.len,fun i dv e=>?_,p.rep.sep,p.rep.bor,p.rep.nse⟩,⟨?_,?_,fun a m=>?_⟩,fun a o e s w z=>k a o (p.keep a o e s w z),p.frm,fun a n1 s w z=>⟨(p.sub a n1 s w z).1,fun m=>?_⟩,p.ln⟩
  · obtain ⟨w,e1,e2⟩:=p.rep.slots i dv e
    refine ⟨w,e1,SlOk.keep e2 p.rep.h.ok (Ex.refl _) (fun a o q _=>k a o q) fun a o ed q=>?_⟩
    subst ed;subst q
    exact (p.rep.nown ⟨i,o,e,e1⟩).2.1
  · obtain ⟨us1,q1⟩:=p.flo.ok
    have dropL:∀ {xs:List FT} {us:List V},FOkL K G1 H1 us (xs++f1)->∃ ws,FOkL K G1 H1 ws f1:=by
      intro xs
      induction xs with
      | nil=>exact fun h=>⟨_,h⟩
      | cons y r ih=>
        intro us h
        cases h with
        | cons h1 h2=>exact ih h2
    obtain ⟨ws,q2⟩:=dropL q1
    exact ⟨_,.cons ok (q2.keep (Ex.refl _) fun a m=>upd_ne (ff a (by rw [acq];exact List.mem_append_right _ m)))⟩
  · rw [asy]
    exact List.nodup_cons.mpr ⟨fun m=>ff l m rfl,p.flo.nod⟩
  · rw [asy] at m
    rcases List.mem_cons.mp m with rfl | m
    · exact ⟨nl,p.rep.h.ex.free n,ownl⟩
    · exact p.flo.own a m
  · rw [asy] at m
    rcases List.mem_cons.mp m with rfl | m
    · obtain ⟨o,e⟩:=Option.ne_none_iff_exists'.mp n1
      rw [p.keep a o e s w z] at n;cases n
    · exact (p.sub a n1 s w z).2 m
theorem anQ:∀ (k:Nat) {vs:List V} {fl:Fl} {t:FT},FOkL K G H vs fl->fl[k]?=some t->∃ v ws,FOk K G H v t/\FOkL K G H ws (fl.eraseIdx k)/\(FT.asL fl).Perm (t.as++FT.asL (fl.eraseIdx k))
  | 0,_,_,_,.cons h q,e=>by
    simp at e;subst e
    exact ⟨_,_,h,q,by rw [aaq,List.eraseIdx_cons_zero]⟩
  | k + 1,_,_,_,.cons (x:=x) h q,e=>by
    obtain ⟨v,ws,e1,e2,e3⟩:=anQ k q (by simpa using e)
    refine ⟨v,_,e1,.cons h e2,?_⟩
    rw [aaq,List.eraseIdx_cons_succ,aaq]
    exact (List.Perm.append_left _ e3).trans (by rw [<- List.append_assoc,<- List.append_assoc];exact List.Perm.append_right _ List.perm_append_comm)
  | _,_,_,_,.nil,e=>by simp at e
theorem FlOk.take {k:Nat} (fo:FlOk K G so σ H sl fl) (e:fl[k]?=some t):FlOk K G so σ H sl (t::fl.eraseIdx k)/\(∃ v,FOk K G H v t)/\∀ a,a∉FT.asL fl->a∉FT.asL (t::fl.eraseIdx k):=by
  obtain ⟨vs,q⟩:=fo.ok
  obtain ⟨v,ws,e1,e2,e3⟩:=anQ k q e
  have pm:(FT.asL fl).Perm (FT.asL (t::fl.eraseIdx k)):=by rw [aaq];exact e3
  exact ⟨⟨⟨_,.cons e1 e2⟩,pm.nodup_iff.mp fo.nod,fun a m=>fo.own a (pm.mem_iff.mpr m)⟩,⟨v,e1⟩,fun a n m=>n (pm.mem_iff.mpr m)⟩
end
section
variable {K:PySem.W.Frag} {G H:Hp} {y:V} {x:FT}
theorem FOkL.put:∀ {vs:List V} {xs:List FT},FOkL K G H vs xs->FOk K G H y x->∀ j,FOkL K G H (vs.set j y) (xs.set j x)
  | _,_,.nil,_,_=>.nil
  | _,_,.cons _ t,w,0=>.cons w t
  | _,_,.cons h t,w,j + 1=>.cons h (FOkL.put t w j)
end
def xVar (i:Nat):TFE:=fun sl fl Q _=>∃ k a x,sl[i]?=some (some (.d (.raw (.ref a))))/\fl[k]?=some x/\x.top=.raw (.ref a)/\Q x sl (fl.eraseIdx k)
abbrev TFA:=DSt->Fl->(List FT->DSt->Fl->Prop)->XP->Prop
def upFA (K:PySem.W.Frag) (W:WX) (t:TFA):TA:=fun σ H R=>∃ G so sl fl Q E,Rep K G so σ H sl/\FlOk K G so σ H sl fl/\t sl fl Q E/\(∀ vs H' G' xs sl' fl',PostF K G so σ H sl fl σ H' G' sl' (xs++fl')->FOkL K G' H' vs xs->Q xs sl' fl'->R vs H')/\XOkF K W G so σ H sl fl E
def FA (X:Cx) (W:WX) (es:List Expr) (t:TFA):Prop:=PA X es (upFA X.K W t)
def xaNil:TFA:=fun sl fl Q _=>Q [] sl fl
def xaCons (te:TFE) (ta:TFA):TFA:=fun sl fl Q E=>te sl fl (fun x s f=>ta s f (fun xs s2 f2=>Q (x::xs) s2 f2) E) E
def xList (ta:TFA):TFE:=fun sl fl Q E=>ta sl fl (fun xs s f=>xs.length<=szl/\∀ a,Q (.lst a xs) s f) E
section
variable {X:Cx} {W:WX} {o e key value:Expr} {es:List Expr} {te tk:TFE} {ta:TFA} {tp:TP} {td:TD} {tn:TDN} {i:Nat} {pos pos':Pos} {C:Addr} {g:Str}
theorem aqk (ho:PE X o (tVar i)):FE X W o (xVar i):=aaD ho fun σ H R ⟨G,so,sl,fl,Q,E,rep,fo,⟨k,a,x,e,ek,et,q⟩,hq,_⟩=>by
  obtain ⟨v,e1,e2⟩:=rep.slots i _ e
  obtain rfl:v=.ref a:=by cases e2;rfl
  obtain ⟨f1,⟨w,f2⟩,f3⟩:=fo.take ek
  obtain rfl:=f2.root' et
  exact ⟨_,e1,hq (.ref a) H G x sl _ ⟨⟨Ex.refl G,rep,f1,fun _ _ q _ _ _=>q,fun _ _ q _ _ _=>q,fun b _ _ w z=>⟨w,f3 b z⟩,rfl⟩,f2⟩ q⟩
theorem aql:FA X W [] xaNil:=akm pa_nil fun σ H R ⟨G,so,sl,fl,Q,E,rep,fo,q,hq,_⟩=>hq [] H G [] sl fl (.refl rep fo) .nil q
theorem apf (he:FE X W e te) (ha:FA X W es ta) (hs:starEach (e::es) X.env=(false,eval e X.env)::starEach es X.env:=by rfl):FA X W (e::es) (xaCons te ta):=akm (pa_cons he ha hs) fun σ H R ⟨G,so,sl,fl,Q,E,rep,fo,q,hq,hx⟩=>
  ⟨G,so,sl,fl,_,E,rep,fo,q,fun v H1 G1 x s1 f1 p1 q1=>
    ⟨G1,so,s1,f1,_,E,p1.rep,p1.flo.tail,q1,fun vs H2 G2 xs s2 f2 p2 w q2=>by
      obtain ⟨p3,k⟩:=PostF.hide1 p1.flo p2
      exact hq (v::vs) H2 G2 (x::xs) s2 f2 (p1.toPostF.trans p3) (.cons (p1.val.keep p2.ex k) w) q2,hx.step p1.toPostF.tail⟩,hx⟩
theorem apd (ha:FA X W es ta):FE X W (.List es pos) (xList ta):=aaD (pe_lst ha) fun σ H R ⟨G,so,sl,fl,Q,E,rep,fo,q,hq,hx⟩=>
  ⟨G,so,sl,fl,_,E,rep,fo,q,fun vs H1 G1 xs s1 f1 p w q1=>⟨by rw [w.len,<- acM];exact q1.1,fun l n=>by
    have nf:∀ a∈FT.asL xs,a≠l:=fun a m z=>p.flo.there (show a∈FT.asL (xs++f1) by rw [acq];exact List.mem_append_left _ m) (z ▸ n)
    have ok:FOk X.K G1 (upd H1 l (.lst vs)) (.ref l) (.lst l xs):=.lst upd_same (w.keep (Ex.refl _) fun a m=>upd_ne (nf a m))
    exact hq _ _ G1 (.lst l xs) s1 f1 ⟨PostF.alloc (vs:=vs) p n (by rw [FT.as]) ok (fun _ z=>nomatch z),ok⟩ (q1.2 l)⟩,hx⟩
def fPut (tp:TP) (tk:TD) (te:TFE):TDF:=fun E sl fl=>te sl fl (fun x s f=>tp s f fun a=>tk s (fun kx s2=>∃ k p xs j y,kx=.d (.int k)/\getP f p=some (.lst a xs)/\ixN xs.length k=some j/\xs[j]?=some y/\noBl s2=true/\E.nx s2 (setP f p (.lst a (xs.set j x)))) E.xc) E.xc
theorem aqh (ho:FP X o tp) (hk:DE X W key td) (hv:FE X W value te) (hs:swapsWithSole [.Subscript o key pos'] value pos.line X.env=pure false:=by rfl) (hw:swappedStores [.Subscript o key pos'] value X.env=pure none:=by rfl)
    (h1:(assignEach [.Subscript o key pos'] X.env).map (·.2)=[assign (.Subscript o key pos') X.env]:=by rfl)
    (ha:∀ v,assign (.Subscript o key pos') X.env v=(do
      let ov <- holding [v] (eval o X.env)
      let iv <- holding [v,ov] (eval key X.env)
      standAt pos'
      holding [v,ov,iv] (setItem ov iv v)
      release [v,ov,iv] []):=by intro _;rfl) :
    FS X W (.Assign [.Subscript o key pos'] value pos) (fPut tp td te):=by
  refine adp (ps_asg hv (pg_sub ho hk set_list ha) hs hw h1) fun D σ H ⟨G,so,sl,fl,E,rep,fo,q,ok⟩=>?_
  refine ⟨G,so,sl,fl,_,E.xc,rep,fo,q,fun y H1 G1 x s1 f1 p1 z=>?_,ok.xc⟩
  refine ⟨G1,so,s1,f1,_,p1.rep,p1.flo.tail,z,fun a z=>?_⟩
  have okx:=ok.step p1.toPostF.tail
  refine ⟨G1,so,s1,_,E.xc,p1.rep,z,fun kv H3 G3 dk s3 p3 z3=>?_,okx.xc.ex p1.flo.tail⟩
  obtain ⟨k,p,xs,j,y0,rfl,e1,ej,ey,nb,z3⟩:=z3
  obtain rfl:kv=.int k:=by have:=p3.val;cases this;rfl
  have pf:=p3.toPost.s.f p1.flo
  obtain ⟨p4,kx⟩:=PostF.hide1 p1.flo (p3.toPost.s.f p1.flo.tail)
  obtain ⟨v1,w1⟩:=pf.flo.tail.at e1
  have yv:=p1.val.keep p3.ex kx
  cases w1 with
  | lst h1 hx=>
    rename_i us
    refine ⟨a,us,k,j,rfl,rfl,h1,by rw [hx.len];exact ej,?_⟩
    have nd:=pf.flo.nod
    rw [aaq] at nd
    obtain ⟨vs,kk⟩:=pf.flo.tail.ok
    obtain ⟨v2,R,g1,g2,_⟩:=aeV p kk pf.flo.tail.nod e1
    have nt:=(List.nodup_append.mp (g2.nodup_iff.mp pf.flo.tail.nod)).1
    rw [FT.as,List.nodup_cons] at nt
    have nx:a∉x.as:=fun m=>(List.nodup_append.mp nd).2.2 a m a (g2.mem_iff.mpr (List.mem_append_left _ (by rw [FT.as];exact List.mem_cons_self ..))) rfl
    obtain ⟨v3,R3,k1,k2,k3,k4⟩:=place j hx ey
    have pu:=ah9 (a:=a) (u:=.lst (us.set j y)) (x:=x) (t':=.lst a (xs.set j x)) (S:=y0.as) pf.rep pf.flo e1 (by rw [FT.as];exact List.mem_cons_self ..) nb (fun _ z=>nomatch z) (by
      rw [FT.as,FT.as]
      have a1:(x.as++(a::FT.asL xs)).Perm (a::(x.as++(y0.as++R3))):=List.perm_middle.trans ((List.Perm.append_left _ k3).cons a)
      have a2:(a::FT.asL (xs.set j x)++y0.as).Perm (a::((x.as++R3)++y0.as)):=((List.Perm.append_right _ (k4 x).1).cons a)
      refine a1.trans (List.Perm.trans ?_ a2.symm)
      refine List.Perm.cons a ?_
      rw [List.append_assoc]
      exact List.Perm.append_left _ List.perm_append_comm) fun v hv=>by
        cases hv with
        | lst h2 hx2=>
          rw [h1] at h2;cases h2
          refine .lst upd_same ?_
          have q1:=hx.keep (H':=upd H3 a (.lst (us.set j y))) (Ex.refl _) fun b m=>upd_ne (fun (z:b=a)=>nt.1 (by rw [<- z];exact m))
          have q2:=yv.keep (H':=upd H3 a (.lst (us.set j y))) (Ex.refl _) fun b m=>upd_ne (fun (z:b=a)=>nx (by rw [<- z];exact m))
          exact q1.put q2 j
    exact ok.nx σ _ G3 s3 _ ((p1.toPostF.trans p4).trans pu) z3
end
def putFF (f:Str) (x:FT):List (Str × FT)->List (Str × FT)
  | []=>[(f,x)]
  | (g,y)::r=>if g=f then (g,x)::r else (g,y)::putFF f x r
section
variable {K:PySem.W.Frag} {G H H':Hp} {v:V} {x:FT} {f:Str}
theorem FOkF.put (h:FOk K G H v x):∀ {vs:List (Str × V)} {fs:List (Str × FT)},FOkF K G H vs fs->FOkF K G H (putF f v vs) (putFF f x fs)
  | _,_,.nil=>.cons h .nil
  | _,_,.cons (f:=g) q t=>by
    unfold putF putFF
    split
    · exact .cons h t
    · exact .cons q (FOkF.put h t)
theorem FOkF.len:∀ {vs:List (Str × V)} {fs:List (Str × FT)},FOkF K G H vs fs->vs.length=fs.length
  | _,_,.nil=>rfl
  | _,_,.cons _ t=>congrArg (· + 1) t.len
theorem aki:∀ (fs:List (Str × FT)),∃ S,(x.as++FT.asF fs).Perm (FT.asF (putFF f x fs)++S)
  | []=>⟨[],by rw [putFF,FT.asF,FT.asF,FT.asF];simp⟩
  | (g,y)::r=>by
    unfold putFF
    split
    · refine ⟨y.as,?_⟩
      rw [FT.asF,FT.asF,List.append_assoc]
      exact List.Perm.append_left _ List.perm_append_comm
    · obtain ⟨S,h⟩:=aki r
      refine ⟨S,?_⟩
      rw [FT.asF,FT.asF,List.append_assoc]
      refine List.Perm.trans ?_ (List.Perm.append_left y.as h)
      rw [<- List.append_assoc,<- List.append_assoc]
      exact List.Perm.append_right _ List.perm_append_comm
end
def fFld (tp:TP) (C:Addr) (g:Str) (te:TFE):TDF:=fun E sl fl=>te sl fl (fun x s f=>tp s f fun a=>∃ p fs,getP f p=some (.ins a C fs)/\fs.length < 1000/\noBl s=true/\E.nx s (setP f p (.ins a C (putFF g x fs)))) E.xc
section
variable {X:Cx} {W:WX} {o e value elt tg iter:Expr} {ifs:List Expr} {te:TFE} {tp:TP} {i:Nat} {pos pos' spos:Pos} {C:Addr} {g y:Str}
theorem an2 (c:Cls X.K C) (na:NoAttr X.K C g) (ho:FP X o tp) (hv:FE X W value te) (hs:swapsWith value (some (.Attribute o g pos')) pos.line X.env=pure false:=by rfl):FS X W (.Assign [.Attribute o g pos'] value pos) (fFld tp C g te):=by
  refine adp (ps_fld ho hv hs) fun D σ H ⟨G,so,sl,fl,E,rep,fo,q,ok⟩=>?_
  refine ⟨G,so,sl,fl,_,E.xc,rep,fo,q,fun yv H1 G1 x s1 f1 p1 z=>?_,ok.xc⟩
  refine ⟨G1,so,s1,f1,_,p1.rep,p1.flo.tail,z,fun a ⟨p,fs,e1,l,nb,z⟩=>?_⟩
  obtain ⟨v1,w1⟩:=p1.flo.tail.at e1
  cases w1 with
  | ins h1 hg hx=>
    rename_i dx us
    refine ⟨a,C,dx,us,rfl,h1,c,na,by rw [hx.len];exact l,?_⟩
    have nd:=p1.flo.nod
    rw [aaq] at nd
    obtain ⟨vs,kk⟩:=p1.flo.tail.ok
    obtain ⟨v2,R,g1,g2,_⟩:=aeV p kk p1.flo.tail.nod e1
    have nt:=(List.nodup_append.mp (g2.nodup_iff.mp p1.flo.tail.nod)).1
    rw [FT.as,List.nodup_cons] at nt
    have nx:a∉x.as:=fun m=>(List.nodup_append.mp nd).2.2 a m a (g2.mem_iff.mpr (List.mem_append_left _ (by rw [FT.as];exact List.mem_cons_self ..))) rfl
    obtain ⟨S,hS⟩:=aki (f:=g) (x:=x) fs
    have pu:=ah9 (a:=a) (u:=.ins C dx (putF g yv us)) (x:=x) (t':=.ins a C (putFF g x fs)) (S:=S) p1.rep p1.flo e1 (by rw [FT.as];exact List.mem_cons_self ..) nb (fun _ z=>nomatch z) (by
      rw [FT.as,FT.as]
      exact List.perm_middle.trans (hS.cons a)) fun v hv=>by
        cases hv with
        | ins h2 hg2 hx2=>
          rw [h1] at h2;cases h2
          have q1:=FOkF.keep (H':=upd H1 a (.ins C dx (putF g yv us))) (Ex.refl _) (fun b m=>upd_ne (fun (z:b=a)=>nt.1 (by rw [<- z];exact m))) hx2
          have q2:=p1.val.keep (H':=upd H1 a (.ins C dx (putF g yv us))) (Ex.refl _) fun b m=>upd_ne (fun (z:b=a)=>nx (by rw [<- z];exact m))
          exact .ins upd_same hg2 (q1.put q2)
    exact ok.nx σ _ G1 s1 _ (p1.toPostF.trans pu) z
end
def dLcF (ti:TDI) (g:TDG) (tt:TDT) (te:TDN) (vs:List Nat):TDN:=fun sl Q E=>ti sl (fun ds s1=>dLcW g tt te vs (fun ts s=>∀ C,Q (.lst C ts) s) ds [] (wipeD s1 vs)) E
section
variable {X:Cx} {W:WX} {elt tg iter:Expr} {ifs:List Expr} {scope:Scope} {own:List (Str × Nat)} {pos spos py:Pos} {ti:TDI} {g:TDG} {tt:TDT} {te:TDN} {ix:List Nat} {i:Nat} {y:Str}
theorem anG {K:PySem.W.Frag} {n:Nat} {g':TG} {σ:L2.St} {H G:Hp} {so:So} {sl:DSt} {E:XP} {Q:FT->DSt->Prop} {R:VK} (vs:List Nat) (hl:σ.length=n) (sg:GSem K n ix g' g) (hix:∀ j,j∈ix->j∈vs) (rep:Rep K G so σ H sl)
    (q:dLcF ti g tt te vs sl Q E) (hx:XOk K W G so σ H sl E) (hq:∀ v H' G' t sl',PostN K G so σ H sl v H' G' t sl'->Q t sl'->R v H'):tLc (upI K W ti) g' (upT K W0 tt) (upN K W0 te) vs σ H R:=by
  refine apx (Q:=fun ts s=>∀ C,Q (.lst C ts) s) vs hl sg hix rep q hx fun C H' G' sl' us ts p hC sC eC gC al ow nw nd z=>?_
  have asC:(FT.lst C ts).as=C::FT.asL ts:=by rw [FT.as]
  have nC:¬ Own sl' σ C:=fun w=>(rep.nown (p.sub C w)).1 hC
  have hb:∀ a∈(FT.lst C ts).as,∀ (i:Nat) (o:OO),sl'[i]?=some (some (.bor o))->σ[i]?=some (some (.ref a))->False:=fun a m i o e1 e2=>by
    obtain ⟨o1,e3⟩:=p.bsub i o e1
    obtain ⟨w,k1,k2⟩:=rep.slots i _ e3
    rw [e2] at k1;cases k1
    obtain ⟨b,z1,_,k⟩:=k2
    cases z1
    rw [asC] at m
    rcases List.mem_cons.mp m with rfl | m
    · exact k.there hC
    · rcases nw a m with n | n
      · exact k.there n
      · exact rep.bor i o1 a e3 e2 n
  have ho:∀ a∈(FT.lst C ts).as,so.Nt a/\G' a=none/\¬ Own sl' σ a:=fun a m=>by
    rw [asC] at m
    rcases List.mem_cons.mp m with rfl | m
    · exact ⟨sC,gC,nC⟩
    · exact ⟨(ow a m).1,(ow a m).2.1,(ow a m).2.2.2⟩
  have hn:∀ a∈(FT.lst C ts).as,H a=none\/Own sl σ a:=fun a m=>by
    rw [asC] at m
    rcases List.mem_cons.mp m with rfl | m
    · exact .inl hC
    · exact nw a m
  exact hq (.ref C) H' G' (.lst C ts) sl' { p with ok:=.lst eC al,nod:=(by rw [asC];exact List.nodup_cons.mpr ⟨fun m=>(ow C m).2.2.1 rfl,nd⟩),own:=ho,new:=hn,bor:=hb } (z C)
theorem apk {g':TG} (hc:X.calm=true) (hN:X.N.Nodup) (hi:DI X W tg iter ti) (ok:BlkOk X.N X.env.scope scope own)
    (hg:∀ s H C cl fp,DG (X.blk s H scope (compEnvC scope cl C X.env) fp) ix tg g' g) (ht:∀ s H C cl fp,DTs (X.blk s H scope (compEnvC scope cl C X.env) fp) W0 ifs tt)
    (he:∀ s H C cl fp,DN (X.blk s H scope (compEnvC scope cl C X.env) fp) W0 elt te) (hix:∀ j,j∈ix->j∈own.map (·.2):=by decide) (hs:∀ x,foldedSetIterable iter X.env x=pure x:=by intro _;rfl) :
    DN X W (.ListComp elt [⟨tg,iter,ifs,0⟩] scope pos) (dLcF ti g tt te (own.map (·.2))):=by
  have b:=pe_lc (tt:=upT X.K W0 tt) (te:=upN X.K W0 te) (ifs:=ifs) (elt:=elt) (pos:=pos) hc hN hi ok (fun s H C cl fp=>(hg s H C cl fp).pg) ht he hs
  exact ⟨fun pins s σ H Q I ⟨G,so,sl,Q',E,rep,q,hq,hx⟩=>b.run pins s σ H Q I (anG _ I.len (hg s H 0 [] []).sem hix rep q hx hq)⟩
theorem anl {g':TG} (hc:X.calm=true) (hN:X.N.Nodup) (hy:X.N[i]?=some y) (hyl:X.env.scope.names.lookup y=some .local) (hsw:swapsWith (.ListComp elt [⟨tg,iter,ifs,0⟩] scope pos) (some (.Name y py)) spos.line X.env=pure true)
    (hi:DI X W tg iter ti) (ok:BlkOk X.N X.env.scope scope own)
    (hg:∀ s H C cl fp,DG (X.blk s H scope (compEnvC scope cl C X.env) fp) ix tg g' g) (ht:∀ s H C cl fp,DTs (X.blk s H scope (compEnvC scope cl C X.env) fp) W0 ifs tt)
    (he:∀ s H C cl fp,DN (X.blk s H scope (compEnvC scope cl C X.env) fp) W0 elt te) (hix:∀ j,j∈ix->j∈own.map (·.2):=by decide) (hs:∀ x,foldedSetIterable iter X.env x=pure x:=by intro _;rfl) :
    FS X W (.Assign [.Name y py] (.ListComp elt [⟨tg,iter,ifs,0⟩] scope pos) spos) (fSet (xDN (dLcF ti g tt te (own.map (·.2)))) i):=by
  have b:=ps_setLc (tt:=upT X.K W0 tt) (te:=upN X.K W0 te) (pos:=pos) (spos:=spos) (py:=py) hc hN hy hyl hsw hi ok (fun s H C cl fp=>(hg s H C cl fp).pg) ht he hs
  refine ⟨fun pins s σ H D I ⟨G,so,sl,fl,E,rep,fo,q,ok⟩=>b.run pins s σ H D I ?_⟩
  show tLc _ _ _ _ _ σ H _
  refine anG (Q:=fun x s=>E.nx (s.set i (some (.d x.top))) (x::fl)) _ I.len (hg s H 0 [] []).sem hix rep q (ok.xc.ex fo) fun v H' G' t sl' p z=>?_
  have pf:=p.f (Gx:=G) fo
  exact ok.nx _ H' G' _ _ (pf.toPostF.set (by rw [I.len];exact (List.getElem?_eq_some_iff.mp hy).1) p.ok.top) z
end
mutual
def D.sol:D->Bool
  | .lst _=>false
  | .ins _ _=>false
  | .dk kvs=>D.solK kvs
  | .dt kvs=>D.solT kvs
  | .tup ds=>D.solL ds
  | _=>true
def D.solL:List D->Bool
  | []=>true
  | x::r=>D.sol x && D.solL r
def D.solK:List (Key × D)->Bool
  | []=>true
  | (_,x)::r=>D.sol x && D.solK r
def D.solT:List (List Key × D)->Bool
  | []=>true
  | (_,x)::r=>D.sol x && D.solT r
end
def D.solF:List (Str × D)->Bool
  | []=>true
  | (_,x)::r=>D.sol x && D.solF r
mutual
def FT.sol:FT->Bool
  | .leaf d=>d.sol
  | .lst _ xs=>FT.solL xs
  | .ins _ _ fs=>FT.solF fs
def FT.solL:List FT->Bool
  | []=>true
  | x::r=>FT.sol x && FT.solL r
def FT.solF:List (Str × FT)->Bool
  | []=>true
  | (_,x)::r=>FT.sol x && FT.solF r
end
abbrev LIF (G:Hp) (as:List Addr):Prop:=∀ b∈as,(∃ vs,G b=some (.lst vs))\/∃ C dx vs,G b=some (.ins C dx vs)
section
variable {K:PySem.W.Frag} {G G1 H H1:Hp} {as:List Addr}
theorem acL {a:Addr} {o:HO} (ls:LIF G as) (e:G a=some o) (n:∀ vs,o≠.lst vs) (n2:∀ C dx vs,o≠.ins C dx vs):DL.unP G as a=some o:=by
  rw [aeQ (fun m=>by
    rcases ls a m with ⟨vs,q⟩ | ⟨C,dx,vs,q⟩
    · rw [e] at q;exact n vs (Option.some.inj q)
    · rw [e] at q;exact n2 C dx vs (Option.some.inj q))]
  exact e
theorem KOk.unPF {a:Addr} {k:Kd} (h:KOk K G1 H1 a k) (old:KOk K G H a k) (ex:Ex G (DL.unP G1 as)) (ls:LIF G1 as):KOk K (DL.unP G1 as) H1 a k:=by
  have gn:DL.unP G1 as a=none:=by
    by_cases m:a∈as
    · exact aj6 m
    · rw [aeQ m];exact h.g
  cases k with
  | src c=>
    obtain ⟨_,ns,i,r,sd,n,h1,h2,h3,h4⟩:=h
    obtain ⟨_,ms,_,_,_,_,_,k2,k3,_⟩:=old
    exact ⟨gn,ms,i,r,sd,n,h1,ex_l ex k2,k3,h4⟩
  | tab z=>
    obtain ⟨_,ps,h1,h2,h3⟩:=h
    exact ⟨gn,ps,h1,h2,fun pos cv hc=>let ⟨c,e1,e2⟩:=h3 pos cv hc;⟨c,e1,acL ls e2 (fun _ z=>by unfold LamX.CodeO at z;cases z) (fun _ _ _ z=>by unfold LamX.CodeO at z;cases z)⟩⟩
  | mt C=>
    obtain ⟨_,⟨dx,vs,h1,h2⟩ | h⟩:=h
    · exact ⟨gn,.inl ⟨dx,vs,h1,acL ls h2 (fun _ z=>by cases z) (fun _ _ _ z=>by cases z)⟩⟩
    · exact ⟨gn,.inr h⟩
end
section
variable {K:PySem.W.Frag} {G G1 H H1:Hp} {as:List Addr}
mutual
theorem DOk.unS (ls:LIF G as):∀ {v:V} {d:D},d.sol=true->DOk K G v d->DOk K (DL.unP G as) v d
  | _,_,_,.non=>.non
  | _,_,_,.bl b=>.bl b
  | _,_,_,.int i=>.int i
  | _,_,_,.str x=>.str x
  | _,_,f,.lst _ _=>by rw [D.sol] at f;cases f
  | _,_,f,.tup h a=>.tup (by
      rcases h with (h | ⟨o,h⟩) | h
      · exact .inl (.inl (acL ls h (fun _ z=>by cases z) (fun _ _ _ z=>by cases z)))
      · exact .inl (.inr ⟨o,acL ls h (fun _ z=>by cases z) (fun _ _ _ z=>by cases z)⟩)
      · exact .inr h) (DAll.unS ls (by rw [D.sol] at f;exact f) a)
  | _,_,f,.ins _ _ _=>by rw [D.sol] at f;cases f
  | _,_,_,.any v=>.any v
  | _,_,f,.dk h a=>.dk (acL ls h (fun _ z=>by cases z) (fun _ _ _ z=>by cases z)) (FAll.unSK ls (by rw [D.sol] at f;exact f) a)
  | _,_,f,.dt h a=>.dt (acL ls h (fun _ z=>by cases z) (fun _ _ _ z=>by cases z)) (FAll.unST ls (by rw [D.sol] at f;exact f) a)
  | _,_,_,.raw v=>.raw v
  | _,_,_,.kt h=>.kt (acL ls h (fun _ z=>by cases z) (fun _ _ _ z=>by cases z))
theorem DAll.unS (ls:LIF G as):∀ {vs:List V} {ds:List D},D.solL ds=true->DAll K G vs ds->DAll K (DL.unP G as) vs ds
  | _,_,_,.nil=>.nil
  | _,_,f,.cons h r=>by
    rw [D.solL,Bool.and_eq_true] at f
    exact .cons (DOk.unS ls f.1 h) (DAll.unS ls f.2 r)
theorem FAll.unSK (ls:LIF G as):∀ {vs:List (Key × V)} {ds:List (Key × D)},D.solK ds=true->FAll K G vs ds->FAll K (DL.unP G as) vs ds
  | _,_,_,.nil=>.nil
  | _,_,f,.cons h r=>by
    rw [D.solK,Bool.and_eq_true] at f
    exact .cons (DOk.unS ls f.1 h) (FAll.unSK ls f.2 r)
theorem FAll.unST (ls:LIF G as):∀ {vs:List (List Key × V)} {ds:List (List Key × D)},D.solT ds=true->FAll K G vs ds->FAll K (DL.unP G as) vs ds
  | _,_,_,.nil=>.nil
  | _,_,f,.cons h r=>by
    rw [D.solT,Bool.and_eq_true] at f
    exact .cons (DOk.unS ls f.1 h) (FAll.unST ls f.2 r)
end
theorem FAll.unSF (ls:LIF G as):∀ {vs:List (Str × V)} {ds:List (Str × D)},D.solF ds=true->FAll K G vs ds->FAll K (DL.unP G as) vs ds
  | _,_,_,.nil=>.nil
  | _,_,f,.cons h r=>by
    rw [D.solF,Bool.and_eq_true] at f
    exact .cons (DOk.unS ls f.1 h) (FAll.unSF ls f.2 r)
mutual
theorem FOk.unS (ls:LIF G as):∀ {v:V} {t:FT},t.sol=true->FOk K G H v t->FOk K (DL.unP G as) H v t
  | _,_,f,.leaf h=>.leaf (DOk.unS ls (by rw [FT.sol] at f;exact f) h)
  | _,_,f,.lst h r=>.lst h (FOkL.unS ls (by rw [FT.sol] at f;exact f) r)
  | _,_,f,.ins h g r=>.ins h (acL ls g (fun _ z=>by cases z) (fun _ _ _ z=>by cases z)) (FOkF.unS ls (by rw [FT.sol] at f;exact f) r)
theorem FOkL.unS (ls:LIF G as):∀ {vs:List V} {ts:List FT},FT.solL ts=true->FOkL K G H vs ts->FOkL K (DL.unP G as) H vs ts
  | _,_,_,.nil=>.nil
  | _,_,f,.cons h r=>by
    rw [FT.solL,Bool.and_eq_true] at f
    exact .cons (FOk.unS ls f.1 h) (FOkL.unS ls f.2 r)
theorem FOkF.unS (ls:LIF G as):∀ {vs:List (Str × V)} {fs:List (Str × FT)},FT.solF fs=true->FOkF K G H vs fs->FOkF K (DL.unP G as) H vs fs
  | _,_,_,.nil=>.nil
  | _,_,f,.cons h r=>by
    rw [FT.solF,Bool.and_eq_true] at f
    exact .cons (FOk.unS ls f.1 h) (FOkF.unS ls f.2 r)
end
end
def lendSl:List (Nat × Nat)->Fl->DSt->DSt
  | [],_,sl=>sl
  | (i,k)::r,fl,sl=>match fl[k]? with
    | some t=>(lendSl r fl sl).set i (some (.d t.d))
    | none=>lendSl r fl sl
def lendC:List (Nat × Nat)->Fl->DSt->Prop
  | [],_,_=>True
  | (i,k)::r,fl,sl=>(∃ a t,sl[i]?=some (some (.d (.raw (.ref a))))/\fl[k]?=some t/\t.top=.raw (.ref a))/\lendC r fl sl
section
variable {K:PySem.W.Frag} {W:WX} {G G1:Hp} {so:So} {σ:L2.St} {H H1:Hp} {sl:DSt} {fl:Fl} {v:V} {is:List (Nat × Nat)}
theorem Rep.setDF {i:Nat} {x z:D} (r:Rep K G so σ H sl) (e:sl[i]?=some (some (.d z))) (e1:σ[i]?=some (some v)) (w:DOk K G v x):Rep K G so σ H (sl.set i (some (.d x))):=by
  have g:∀ {j:Nat} {dv:DV},(∀ y,dv≠.d y)->(sl.set i (some (.d x)))[j]?=some (some dv)->sl[j]?=some (some dv):=fun n q=>by
    rcases get_set q with ⟨_,q⟩ | ⟨_,q⟩
    · cases q;exact absurd rfl (n x)
    · exact q
  refine ⟨r.h,by rw [List.length_set];exact r.len,fun j dv q=>?_,fun j k o o' a q1 q2 q3 q4=>r.sep j k o o' a (g (fun _ z=>nomatch z) q1) (g (fun _ z=>nomatch z) q2) q3 q4,fun j o a q1 q2 ⟨m,o',y1,y2⟩=>r.bor j o a (g (fun _ z=>nomatch z) q1) q2 ⟨m,o',g (fun _ z=>nomatch z) y1,y2⟩,fun j o q=>r.nse j o (g (fun _ z=>nomatch z) q)⟩
  rcases get_set q with ⟨y1,y2⟩ | ⟨_,y2⟩
  · cases y2;subst y1;exact ⟨v,e1,w⟩
  · exact r.slots j dv y2
theorem aeZ:∀ {is:List (Nat × Nat)} {j:Nat} {dv:DV},lendC is fl sl->(∀ z,dv≠.d z)->((lendSl is fl sl)[j]?=some (some dv) ↔ sl[j]?=some (some dv))
  | [],j,dv,_,_=>by unfold lendSl;exact Iff.rfl
  | (i,k)::r,j,dv,h,n=>by
    unfold lendC at h
    obtain ⟨⟨a,t,e1,e2,e3⟩,h2⟩:=h
    have ih:=aeZ (j:=j) (dv:=dv) h2 n
    unfold lendSl
    rw [e2]
    dsimp only
    by_cases q:j=i
    · subst q
      constructor
      · intro z
        rcases get_set z with ⟨_,z⟩ | ⟨ne,_⟩
        · cases z;exact absurd rfl (n _)
        · exact absurd rfl ne
      · intro z;rw [e1] at z;cases z;exact absurd rfl (n _)
    · rw [List.getElem?_set_ne (fun z=>q z.symm)];exact ih
theorem adH {j:Nat} {o:OO} (c:lendC is fl sl):(lendSl is fl sl)[j]?=some (some (.own o)) ↔ sl[j]?=some (some (.own o)):=aeZ (dv:=.own o) c (fun _ z=>nomatch z)
theorem ak0 {j:Nat} {o:OO} (c:lendC is fl sl):(lendSl is fl sl)[j]?=some (some (.bor o)) ↔ sl[j]?=some (some (.bor o)):=aeZ (dv:=.bor o) c (fun _ z=>nomatch z)
theorem Rep.lendF (r:Rep K G so σ H sl) (fo:FlOk K G so σ H sl fl) (c:lendC is fl sl):Rep K (puB G H (FT.asL fl)) so σ H (lendSl is fl sl):=by
  have ex:Ex G (puB G H (FT.asL fl)):=aiY fun a m=>(fo.own a m).2.1
  have r0:Rep K (puB G H (FT.asL fl)) so σ H sl:=by
    refine ⟨r.h.pubF fun a m=>⟨(fo.own a m).2.1,(fo.own a m).1⟩,r.len,fun i dv e=>?_,r.sep,r.bor,r.nse⟩
    obtain ⟨w,e1,e2⟩:=r.slots i dv e
    refine ⟨w,e1,SlOk.keep e2 r.h.ok ex (fun _ _ q _=>q) fun a o ed q=>?_⟩
    subst ed;subst q
    rw [ade (fun m=>(fo.own a m).2.2 ⟨i,o,e,e1⟩)]
    exact (r.nown ⟨i,o,e,e1⟩).2.1
  obtain ⟨vs,ok⟩:=fo.ok
  induction is with
  | nil=>unfold lendSl;exact r0
  | cons p t ih=>
    obtain ⟨i,k⟩:=p
    unfold lendC at c
    obtain ⟨⟨a,x,e1,e2,e3⟩,c2⟩:=c
    have ih:=ih c2
    unfold lendSl
    rw [e2]
    dsimp only
    obtain ⟨v,f1,f2⟩:=ok.get e2
    obtain rfl:=f2.root' e3
    obtain ⟨u,k1,k2⟩:=r.slots i _ e1
    obtain rfl:u=.ref a:=by cases k2;rfl
    have dx:DOk K (puB G H (FT.asL fl)) (.ref a) x.d:=FOk.pub ex (fun b m=>agA (ajs (List.mem_of_getElem? e2) b m)) f2
    by_cases q:∃ z,(lendSl t fl sl)[i]?=some (some (.d z))
    · obtain ⟨z,q⟩:=q
      exact ih.setDF q k1 dx
    · exfalso
      have hi:i < (lendSl t fl sl).length:=by
        rw [ih.len];exact (List.getElem?_eq_some_iff.mp k1).1
      cases q2:(lendSl t fl sl)[i]? with
      | none=>exact absurd (List.getElem?_eq_none_iff.mp q2) (by omega)
      | some y=>
        have gen:∀ {is:List (Nat × Nat)},(lendSl is fl sl)[i]?=sl[i]?\/∃ z,(lendSl is fl sl)[i]?=some (some (.d z)):=by
          intro is
          induction is with
          | nil=>unfold lendSl;exact .inl rfl
          | cons p r2 ih2=>
            obtain ⟨i2,k2⟩:=p
            unfold lendSl
            split
            · rename_i t2 _
              by_cases q:i2=i
              · subst q
                rcases ih2 with z | ⟨z,y⟩
                · have l2:i2 < (lendSl r2 fl sl).length:=(List.getElem?_eq_some_iff.mp (z.trans e1)).1
                  exact .inr ⟨_,List.getElem?_set_self l2⟩
                · exact .inr ⟨_,List.getElem?_set_self (List.getElem?_eq_some_iff.mp y).1⟩
              · rw [List.getElem?_set_ne q];exact ih2
            · exact ih2
        rcases gen (is:=t) with z | ⟨z,y⟩
        · exact q ⟨_,z.trans e1⟩
        · exact q ⟨z,y⟩
theorem Post.backF (r:Rep K G so σ H sl) (fo:FlOk K G so σ H sl fl) (c:lendC is fl sl) (nm:noMu sl=true) (p:Post K (puB G H (FT.asL fl)) so σ H (lendSl is fl sl) H1 G1 (lendSl is fl sl)) :
    Post K G so σ H sl H1 (DL.unP G1 (FT.asL fl)) sl/\LIF G1 (FT.asL fl):=by
  obtain ⟨vs,ok⟩:=fo.ok
  have ls:LIF G1 (FT.asL fl):=fun a m=>by
    rcases FOkL.li ok a m with ⟨us,q⟩ | ⟨C,dx,us,q⟩
    · exact .inl ⟨us,p.ex _ _ (by rw [agA m];exact q)⟩
    · exact .inr ⟨C,dx,us,p.ex _ _ (by rw [agA m];exact q)⟩
  have ex:Ex G (DL.unP G1 (FT.asL fl)):=fun a o q=>by
    have m:a∉FT.asL fl:=fun m=>by rw [(fo.own a m).2.1] at q;cases q
    rw [aeQ m]
    exact p.ex _ _ (by rw [ade m];exact q)
  have own:∀ a,Own (lendSl is fl sl) σ a ↔ Own sl σ a:=fun a=>⟨fun ⟨j,o,f1,f2⟩=>⟨j,o,(adH c).mp f1,f2⟩,fun ⟨j,o,f1,f2⟩=>⟨j,o,(adH c).mpr f1,f2⟩⟩
  have hr:HRep K (DL.unP G1 (FT.asL fl)) so H1:=⟨fun a o q=>p.rep.h.ex _ _ (apA _ _ q),fun a k q=>KOk.unPF (p.rep.h.vol a k q) (r.h.vol a k q) ex ls,r.h.ok,fun a xs q=>acL ls (p.rep.h.tp a xs q) (fun _ z=>by cases z) (fun _ _ _ z=>by cases z)⟩
  refine ⟨⟨ex,⟨hr,r.len,fun j dv f=>?_,r.sep,r.bor,r.nse⟩,p.keep,fun a n g s w=>?_,fun a z=>z,fun j o z=>⟨o,z⟩⟩,ls⟩
  · obtain ⟨w,w1,w2⟩:=r.slots j dv f
    refine ⟨w,w1,?_⟩
    have nmu:∀ y D gs,dv≠.mu y D gs:=fun y D gs ed=>by subst ed;exact aic nm f
    have ngh:∀ y g,dv≠.gh y g:=fun y g ed=>by subst ed;exact agH nm f
    have ww:VOk K G so H w dv:=SlOk.val w2 nmu ngh
    refine VOk.slot (ww.keep ex p.keep fun a o ed q=>?_)
    subst ed;subst q
    have m:a∉FT.asL fl:=fun m=>(fo.own a m).2.2 ⟨j,o,f,w1⟩
    obtain ⟨u,u1,u2⟩:=p.rep.slots j (.own o) ((adH c).mpr f)
    rw [w1] at u1;cases u1
    obtain ⟨b,q3,g3,_,_⟩:=u2
    cases q3
    rw [aeQ m];exact g3
  · by_cases m:a∈FT.asL fl
    · exact aj6 m
    · rw [aeQ m]
      exact p.frm a n (by rw [ade m];exact g) s fun z=>w ((own a).mp z)
end
def xLend (is:List (Nat × Nat)) (te:TDN):TFE:=fun sl fl Q E=>lendC is fl sl/\noMu sl=true/\
  te (lendSl is fl sl) (fun x s1=>s1=lendSl is fl sl/\x.sol=true/\Q x sl fl) (fun cls fs s1=>s1=lendSl is fl sl/\D.solF fs=true/\E cls fs sl)
section
variable {K:PySem.W.Frag} {W:WX} {G:Hp} {so:So} {σ:L2.St} {H:Hp} {sl:DSt} {fl:Fl} {X:Cx} {e c:Expr} {body orelse:List Stmt} {tn:TDN} {tc:TDT} {t u:TDF} {pos:Pos}
theorem XOkF.lend {E:XP} {is:List (Nat × Nat)} (r:Rep K G so σ H sl) (fo:FlOk K G so σ H sl fl) (lc:lendC is fl sl) (nm:noMu sl=true) (h:XOkF K W G so σ H sl fl E) :
    XOk K W (puB G H (FT.asL fl)) so σ H (lendSl is fl sl) (fun cls fs s1=>s1=lendSl is fl sl/\D.solF fs=true/\E cls fs sl):=fun cls d H1 G1 fs s1 p xd ⟨q1,q2,q3⟩=>by
  subst q1
  obtain ⟨b,ls⟩:=Post.backF r fo lc nm p
  refine h cls d σ H1 _ fs sl (b.s.f fo).forget ?_ q3
  cases d with
  | none=>exact xd
  | some dx=>obtain ⟨vs,k1,k2⟩:=xd;exact ⟨vs,k1,FAll.unSF ls q2 k2⟩
theorem ape (h:DN X W e tn) (is:List (Nat × Nat)):FE X W e (xLend is tn):=aaD h fun σ H R ⟨G,so,sl,fl,Q,E,rep,fo,⟨lc,nm,q⟩,hq,hx⟩=>by
  have r2:=rep.lendF fo lc
  have own:∀ a,Own (lendSl is fl sl) σ a->Own sl σ a:=fun a ⟨j,o,f1,f2⟩=>⟨j,o,(adH lc).mp f1,f2⟩
  refine ⟨_,_,_,_,_,r2,q,fun v H1 G1 x s1 p ⟨q1,q2,q3⟩=>?_,hx.lend rep fo lc nm⟩
  subst q1
  obtain ⟨b,ls⟩:=Post.backF rep fo lc nm p.toPost
  have pn:PostN X.K G so σ H sl v H1 (DL.unP G1 (FT.asL fl)) x sl:={ b with
    ok:=FOk.unS ls q2 p.ok
    nod:=p.nod
    own:=fun a m=>⟨(p.own a m).1,(by
      by_cases z:a∈FT.asL fl
      · exact aj6 z
      · rw [aeQ z];exact (p.own a m).2.1),fun w=>(p.own a m).2.2 (by obtain ⟨j,o,f1,f2⟩:=w;exact ⟨j,o,(adH lc).mpr f1,f2⟩)⟩
    new:=fun a m=>(p.new a m).elim .inl fun w=>.inr (own a w)
    bor:=fun a m i o e1 e2=>p.bor a m i o ((ak0 lc).mpr e1) e2 }
  exact hq v H1 _ x sl fl (pn.f (Gx:=G) fo) q3
end
section
variable {K:PySem.W.Frag} {G H:Hp} {so:So} {σ:L2.St} {sl:DSt} {i:Nat} {a:Addr} {kvs:List (Key × D)} {vs:List (Key × V)} {od:Obj}
theorem amI {G' H':Hp} {v:V} {dv:DV} {sl':DSt} (rep:Rep K G so σ H sl) (e:sl[i]?=some (some (.own (.dk kvs)))) (e1:σ[i]?=some (some (.ref a))) (ga:G a=none) (sa:so.Nt a) (ha:H a=some (.dK vs)) (fa:FAll K G vs kvs) (na:¬ Own (sl.set i (some (.bor (.dk kvs)))) σ a)
    (p:PostE K G so σ (upd H a (.frz od (.dK vs))) (sl.set i (some (.bor (.dk kvs)))) v H' G' dv sl') (z0:sl'[i]?=some (some (.bor (.dk kvs)))) (z1:keepR dv):PostE K G so σ H sl v (upd H' a (.dK vs)) G' dv (sl'.set i (some (.own (.dk kvs))))/\H' a=some (.frz od (.dK vs)):=by
  have hi:i < sl.length:=(List.getElem?_eq_some_iff.mp e).1
  have oa:Own sl σ a:=⟨i,_,e,e1⟩
  have up_a:∀ b,b≠a->upd H a (.frz od (.dK vs)) b=H b:=fun b n=>upd_ne n
  have hi':i < sl'.length:=(List.getElem?_eq_some_iff.mp z0).1
  have g':G' a=none:=p.frm a (by rw [upd_same];simp) ga sa na
  have h':H' a=some (.frz od (.dK vs)):=p.keep a _ upd_same sa
  have nown:¬ Own sl' σ a:=fun w=>na (p.sub a w)
  have nbor:∀ (j:Nat) (o:OO),j≠i->sl'[j]?=some (some (.bor o))->σ[j]?≠some (some (.ref a)):=fun j o ne q1 q2=>by
    obtain ⟨o',q3⟩:=p.bsub j o q1
    rcases get_set q3 with ⟨y,_⟩ | ⟨_,y⟩
    · exact ne y
    · exact rep.bor j o' a y q2 oa
  refine ⟨?_,h'⟩
  have ownset:∀ b,Own (sl'.set i (some (.own (.dk kvs)))) σ b->b=a\/Own sl' σ b:=fun b ⟨j,o,q1,q2⟩=>by
    rcases get_set q1 with ⟨rfl,_⟩ | ⟨_,y⟩
    · rw [e1] at q2;cases q2;exact .inl rfl
    · exact .inr ⟨j,o,y,q2⟩
  have vne:∀ (o:OO) (b:Addr),dv=.own o->v=.ref b->b≠a:=fun o b q1 q2 y=>by
    subst y
    rcases p.new b o q1 q2 with y | y
    · rw [upd_same] at y;cases y
    · exact na y
  refine { ex:=p.ex,rep:=⟨⟨fun b o q1=>?_,fun b k q1=>?_,p.rep.h.ok,aea p.rep.h.tp (by intro _ z;cases z)⟩,by rw [List.length_set];exact p.rep.len,fun j d ej=>?_,fun j k o1 o2 b q1 q2 q3 q4=>?_,fun j o1 b q1 q2 w=>?_,fun j o1 w=>?_⟩,keep:=fun b o q1 sb=>?_,frm:=fun b n1 g1 sb w=>?_,sub:=fun b w=>?_,bsub:=fun j o w=>?_,val:=?_,new:=fun b o q1 q2=>?_,sepv:=fun b o q1 q2 w=>?_,nbs:=fun b o j o' q1 q2 q3 q4=>?_ }
  · rw [upd_ne (fun y=>by rw [y,g'] at q1;cases q1)];exact p.rep.h.ex b o q1
  · exact (p.rep.h.vol b k q1).keep (Ex.refl _) (p.rep.h.vol b k q1).g (upd_ne fun y=>sa (y ▸ ⟨k,q1⟩))
  · rcases get_set ej with ⟨rfl,y⟩ | ⟨ne,y⟩
    · cases y;exact ⟨_,e1,a,rfl,g',sa,vs,upd_same,fa.mono p.ex⟩
    · obtain ⟨v',f1,f2⟩:=p.rep.slots j d y
      refine ⟨v',f1,?_⟩
      cases d with
      | d x=>exact f2
      | src=>exact f2
      | own o=>
        obtain ⟨b,rfl,g1,s1,k⟩:=f2
        have ab:b≠a:=fun q=>nown (q ▸ ⟨j,o,y,f1⟩)
        exact ⟨b,rfl,g1,s1,k.keep (Ex.refl _) (upd_ne ab)⟩
      | bor o=>
        obtain ⟨b,rfl,s1,k⟩:=f2
        have ab:b≠a:=fun q=>nbor j o ne y (q ▸ f1)
        exact ⟨b,rfl,s1,k.keep (Ex.refl _) (upd_ne ab)⟩
      | see o=>exact absurd y (p.rep.nse j o)
      | mu y D gs=>exact SlOk.muU f2 (Ex.refl _) sa
      | gh _ _=>exact SlOk.ghU f2 (Ex.refl _) sa
  · rcases get_set q1 with ⟨rfl,y⟩ | ⟨n1,y1⟩
    · rcases get_set q2 with ⟨rfl,_⟩ | ⟨n2,y2⟩
      · rfl
      · rw [e1] at q3;cases q3;exact absurd ⟨k,o2,y2,q4⟩ nown
    · rcases get_set q2 with ⟨rfl,_⟩ | ⟨n2,y2⟩
      · rw [e1] at q4;cases q4;exact absurd ⟨j,o1,y1,q3⟩ nown
      · exact p.rep.sep j k o1 o2 b y1 y2 q3 q4
  · rcases get_set q1 with ⟨_,y⟩ | ⟨ne,y⟩
    · cases y
    · rcases ownset b w with rfl | w
      · exact nbor j o1 ne y q2
      · exact p.rep.bor j o1 b y q2 w
  · rcases get_set w with ⟨_,y⟩ | ⟨ne,y⟩
    · cases y
    · exact p.rep.nse j o1 y
  · by_cases y:b=a
    · subst y;rw [ha] at q1;cases q1;exact upd_same
    · rw [upd_ne y];exact p.keep b o (by rw [up_a b y];exact q1) sb
  · have y:b≠a:=fun y=>w (y ▸ oa)
    exact p.frm b (by rw [up_a b y];exact n1) g1 sb fun k=>w (adP k).1
  · rcases ownset b w with rfl | w
    · exact oa
    · exact (adP (p.sub b w)).1
  · rcases get_set w with ⟨_,y⟩ | ⟨ne,y⟩
    · cases y
    · obtain ⟨o',q3⟩:=p.bsub j o y
      rcases get_set q3 with ⟨y,_⟩ | ⟨_,y⟩
      · exact absurd y ne
      · exact ⟨o',y⟩
  · have w:=p.val
    cases dv with
    | d x=>exact w
    | src=>exact w
    | own o=>
      obtain ⟨b,rfl,g1,s1,k⟩:=w
      exact ⟨b,rfl,g1,s1,k.keep (Ex.refl _) (upd_ne (vne o b rfl rfl))⟩
    | bor o=>exact z1.elim
    | see o=>exact z1.elim
    | mu _ _ _=>exact w.elim
    | gh _ _=>exact w.elim
  · rcases p.new b o q1 q2 with y | y
    · refine .inl ?_
      by_cases q:b=a
      · exact absurd q (vne o b q1 q2)
      · rw [<- up_a b q];exact y
    · exact .inr (adP y).1
  · rcases ownset b w with y | w
    · rcases q1 with q1 | q1
      · exact vne o b q1 q2 y
      · rw [q1] at z1;exact z1
    · exact p.sepv b o q1 q2 w
  · rcases get_set q3 with ⟨_,y⟩ | ⟨ne,y⟩
    · cases y
    · exact p.nbs b o j o' q1 q2 y q4
end
def dBorDN (i:Nat) (t:TDN):TDN:=fun sl Q _=>∃ kvs,sl[i]?=some (some (.own (.dk kvs)))/\t (sl.set i (some (.bor (.dk kvs)))) (fun x s1=>s1[i]?=some (some (.bor (.dk kvs)))/\Q x (s1.set i (some (.own (.dk kvs))))) (fun _ _ _=>False)
theorem apl {X:Cx} {W:WX} {e:Expr} {t:TDN} {i:Nat} (h:DN X W e t):DN X W e (dBorDN i t):=by
  refine aaD (pe_lock h) fun σ H R ⟨G,so,sl,Q,E,rep,⟨kvs,e,q⟩,hq,hx⟩=>?_
  obtain ⟨v,e1,a,rfl,ga,sa,vs,ha,fa⟩:=rep.slots i _ e
  refine ⟨a,.dK vs,ha,trivial,fun od=>?_⟩
  obtain ⟨rep',na⟩:=rep.borD (od:=od) e e1 ga sa ha fa
  refine ⟨G,so,_,_,_,rep',q,fun v H' G' x sl' p z=>?_,fun _ _ _ _ _ _ _ _ z=>z.elim⟩
  obtain ⟨z0,z2⟩:=z
  have pe:PostE X.K G so σ (upd H a (.frz od (.dK vs))) (sl.set i (some (.bor (.dk kvs)))) .non H' G' (.d .non) sl':=p.toPost.thenV (.dat p.rep.h .non)
  obtain ⟨b,h'⟩:=amI rep e e1 ga sa ha fa na pe z0 trivial
  have oa:Own sl σ a:=⟨i,_,e,e1⟩
  have xa:∀ b∈x.as,b≠a:=fun c m y=>by
    rw [y] at m
    rcases p.new a m with y | y
    · rw [upd_same] at y;cases y
    · exact na y
  have ow:∀ b∈x.as,so.Nt b/\G' b=none/\¬ Own (sl'.set i (some (.own (.dk kvs)))) σ b:=fun b m=>⟨(p.own b m).1,(p.own b m).2.1,fun ⟨j,o,q1,q2⟩=>by
    rcases get_set q1 with ⟨rfl,_⟩ | ⟨_,y⟩
    · rw [e1] at q2;cases q2;exact xa a m rfl
    · exact (p.own b m).2.2 ⟨j,o,y,q2⟩⟩
  have nw:∀ b∈x.as,H b=none\/Own sl σ b:=fun b m=>(p.new b m).elim (fun y=>.inl (by rw [upd_ne (xa b m)] at y;exact y)) fun y=>.inr (adP y).1
  have nb:∀ b∈x.as,∀ (j:Nat) (o:OO),(sl'.set i (some (.own (.dk kvs))))[j]?=some (some (.bor o))->σ[j]?=some (some (.ref b))->False:=fun b m j o q1 q2=>by
    rcases get_set q1 with ⟨_,y⟩ | ⟨_,y⟩
    · cases y
    · exact p.bor b m j o y q2
  refine ⟨h',hq v _ G' x _ { b.toPost with ok:=p.ok.keep (Ex.refl _) fun b m=>upd_ne (xa b m),nod:=p.nod,own:=ow,new:=nw,bor:=nb } z2⟩
def dPubN (t:TDN):TD:=fun sl Q E=>t sl (fun x s=>Q (.d x.d) s) E
theorem agV {X:Cx} {W:WX} {e:Expr} {t:TDN} (h:DN X W e t):DE X W e (dPubN t):=aaD h fun σ H R ⟨G,so,sl,Q,E,rep,q,hq,hx⟩=>⟨G,so,sl,_,E,rep,q,fun v H' G' x s p z=>by
  have ex:Ex G' (puB G' H' x.as):=aiY fun a m=>(p.own a m).2.1
  refine hq v H' (puB G' H' x.as) (.d x.d) s ⟨⟨p.ex.trans ex,⟨p.rep.h.pubF fun a m=>⟨(p.own a m).2.1,(p.own a m).1⟩,p.rep.len,fun i dv e=>?_,p.rep.sep,p.rep.bor,p.rep.nse⟩,p.keep,fun a n g s w=>?_,p.sub,p.bsub⟩,FOk.pub ex (fun a m=>agA m) p.ok,fun _ _ y=>(nomatch y),fun _ _ y=>(by rcases y with y | y<;>cases y),fun _ _ _ _ y=>(nomatch y)⟩ z
  · obtain ⟨w,e1,e2⟩:=p.rep.slots i dv e
    refine ⟨w,e1,SlOk.keep e2 p.rep.h.ok ex (fun _ _ q _=>q) fun a o ed q=>?_⟩
    subst ed;subst q
    rw [ade (fun m=>(p.own a m).2.2 ⟨i,o,e,e1⟩)]
    exact (p.rep.nown ⟨i,o,e,e1⟩).2.1
  · rw [ade (fun m=>(p.new a m).elim (fun y=>n y) w)]
    exact p.frm a n g s w,hx⟩
theorem amo {X:Cx} {W:WX} {rest:List Stmt} {t:TDF} {u:TDS} {n:Nat} (h1:FSs X W (rest.take n) t) (h2:DSs X W (rest.drop n) u):DSs X W rest (dSeq (dFl t) u):=by
  have h:=aox (aqo h1) h2
  rw [List.take_append_drop] at h
  refine afz h fun D σ H ⟨G,so,sl,E,rep,q,ok⟩=>?_
  exact ⟨G,so,sl,_,rep,q,⟨fun σ1 H1 G1 s1 p q1=>⟨G1,so,s1,E,p.rep,q1,ok.step p⟩,ok.bk,ok.ct,ok.rt,ok.xc⟩⟩
abbrev NoSee (x:DV):Prop:=∀ o,x≠.see o
theorem aia {args:List DV} (h:∀ x∈args,NoSee x):∀ (i:Nat) (o:OO),args[i]?≠some (.see o):=fun i o e=>h _ (List.mem_of_getElem? e) o rfl
theorem amA:∀ (ts:List FT),FT.dL ts=ts.map FT.d
  | []=>by rw [FT.dL,List.map_nil]
  | t::r=>by rw [FT.dL,List.map_cons,amA r]
theorem ahQ:∀ (ts:List FT),FT.solL ts=true ↔ ∀ t∈ts,t.sol=true
  | []=>by rw [FT.solL];simp
  | t::r=>by rw [FT.solL,Bool.and_eq_true,ahQ r];simp
theorem aen:∀ (ts:List D),D.solL ts=true ↔ ∀ t∈ts,t.sol=true
  | []=>by rw [D.solL];simp
  | t::r=>by rw [D.solL,Bool.and_eq_true,aen r];simp
theorem FT.lst_of {t:FT} {ds:List D} (h:t.d=.lst ds) (s:t.sol=true):∃ a xs,t=.lst a xs/\FT.dL xs=ds/\FT.solL xs=true:=by
  cases t with
  | leaf d=>
    rw [FT.d] at h;subst h
    rw [FT.sol,D.sol] at s;cases s
  | lst a xs=>
    rw [FT.d] at h;cases h
    rw [FT.sol] at s
    exact ⟨a,xs,rfl,rfl,s⟩
  | ins a C fs=>rw [FT.d] at h;cases h
theorem ait (a:Addr) (ds:List D):(FT.lst a (ds.map .leaf)).d=.lst ds:=by rw [FT.d,ahK]
theorem aft {a:Addr} {ds:List D} (h:D.solL ds=true):(FT.lst a (ds.map .leaf)).sol=true:=by
  rw [FT.sol,ahQ]
  intro t ht
  obtain ⟨x,hx,rfl⟩:=List.mem_map.mp ht
  rw [FT.sol]
  exact (aen ds).mp h x hx
theorem amz (a:Addr) (ts:List FT):(FT.lst a ts).d=.lst (FT.dL ts):=by rw [FT.d]
theorem ahP (a:Addr) (ts:List FT):(FT.lst a ts).sol=FT.solL ts:=by rw [FT.sol]
section
variable {g:TDG} {tt:TDT} {te:TDN} {vs:List Nat} {Q:List FT->DSt->Prop}
theorem apX (R:Nat->FT->Prop) (S:DSt) {ds0:List D} (hl:ds0.length<=szl)
    (step:∀ (i:Nat) (d:D),ds0[i]?=some d->∀ (M:FT->DSt->Prop) (A:DSt->Prop),(∀ t,R i t->M t S)->g d S fun s1=>tt s1 (fun b s2=>Br b (te s2 (fun t s3=>M t (wipeD s3 vs)) fun _ _ _=>False) (A (wipeD s2 vs))) fun _ _ _=>False)
    (q:∀ ts:List FT,ts.length=ds0.length->(∀ (i:Nat) (t:FT),ts[i]?=some t->R i t)->Q ts S):dLcW g tt te vs Q ds0 [] S:=by
  have go:∀ (ds dn:List D) (acc:List FT),ds0=dn++ds->acc.length=dn.length->(∀ (i:Nat) (t:FT),acc[i]?=some t->R i t)->dLcW g tt te vs Q ds acc S:=by
    intro ds
    induction ds with
    | nil=>
      intro dn acc h1 h2 h3
      rw [alT]
      exact q acc (by rw [h1,List.append_nil];exact h2) h3
    | cons d r ih=>
      intro dn acc h1 h2 h3
      rw [akt]
      have l0:ds0.length=dn.length + (r.length + 1):=by rw [h1,List.length_append,List.length_cons]
      refine step dn.length d (by rw [h1,List.getElem?_append_right (Nat.le_refl _)];simp) (fun t s=>acc.length < szl/\dLcW g tt te vs Q r (acc++[t]) s) (fun s=>dLcW g tt te vs Q r acc s) fun t ht=>⟨by omega,ih (dn++[d]) (acc++[t]) (by rw [h1];simp) (by simp [h2]) fun i u e=>?_⟩
      by_cases z:i < acc.length
      · rw [List.getElem?_append_left z] at e;exact h3 i u e
      · rw [List.getElem?_append_right (by omega)] at e
        have:i - acc.length=0:=by
          cases q:i - acc.length with
          | zero=>rfl
          | succ k=>rw [q] at e;simp at e
        rw [this] at e
        simp at e;subst e
        have:i=dn.length:=by omega
        rw [this];exact ht
  exact go ds0 [] [] rfl rfl fun i t e=>by simp at e
theorem aii (h:Nat->D) (R:Nat->D->Prop) (S:DSt) {n:Nat} (hl:n<=szl)
    (step:∀ i,i < n->∀ (M:FT->DSt->Prop) (A:DSt->Prop),(∀ t,R i t.d->t.sol=true->M t S)->g (h i) S fun s1=>tt s1 (fun b s2=>Br b (te s2 (fun t s3=>M t (wipeD s3 vs)) fun _ _ _=>False) (A (wipeD s2 vs))) fun _ _ _=>False)
    (q:∀ f':Nat->D,(∀ i,i < n->R i (f' i))->∀ ts:List FT,FT.dL ts=(List.range n).map f'->FT.solL ts=true->Q ts S):dLcW g tt te vs Q ((List.range n).map h) [] S:=by
  refine apX (fun i t=>R i t.d/\t.sol=true) S (by rw [List.length_map,List.length_range];exact hl) (fun i d e M A hM=>?_) fun ts l k=>?_
  · have hi:i < n:=by
      have:=(List.getElem?_eq_some_iff.mp e).1
      rw [List.length_map,List.length_range] at this;exact this
    rw [List.getElem?_map,List.getElem?_range hi] at e
    cases e
    exact step i hi M A fun t h1 h2=>hM t ⟨h1,h2⟩
  · rw [List.length_map,List.length_range] at l
    refine q (fun i=>((ts[i]?).map FT.d).getD .non) (fun i hi=>?_) ts ?_ ((ahQ ts).mpr fun t ht=>?_)
    · have e:ts[i]?=some (ts[i]'(by omega)):=List.getElem?_eq_getElem _
      have:=(k i _ e).1
      rw [e];exact this
    · rw [amA]
      apply List.ext_getElem?
      intro i
      rw [List.getElem?_map,List.getElem?_map]
      by_cases hi:i < n
      · have e:ts[i]?=some (ts[i]'(by omega)):=List.getElem?_eq_getElem _
        rw [List.getElem?_range hi,e]
        simp [e]
      · rw [List.getElem?_eq_none_iff.mpr (by omega),List.getElem?_eq_none_iff.mpr (by rw [List.length_range];omega)];rfl
    · obtain ⟨i,e⟩:=List.mem_iff_getElem?.mp ht
      exact (k i t e).2
theorem alS (h f:Nat->D) (S:DSt) {n:Nat} (hl:n<=szl)
    (step:∀ i,i < n->∀ (M:FT->DSt->Prop) (A:DSt->Prop),(∀ t,t.d=f i->t.sol=true->M t S)->g (h i) S fun s1=>tt s1 (fun b s2=>Br b (te s2 (fun t s3=>M t (wipeD s3 vs)) fun _ _ _=>False) (A (wipeD s2 vs))) fun _ _ _=>False)
    (q:∀ ts:List FT,FT.dL ts=(List.range n).map f->FT.solL ts=true->Q ts S):dLcW g tt te vs Q ((List.range n).map h) [] S:=
  aii h (fun i y=>y=f i) S hl (fun i hi M A hM=>step i hi M A fun t h1 h2=>hM t h1 h2) fun f' hf ts e s=>q ts (by rw [e];exact List.map_congr_left fun i hi=>hf i (List.mem_range.mp hi)) s
end
theorem acp {t u:TDF} {E:EndsF} {sl:DSt} {fl:Fl} (C:DSt->Fl->Prop) (h:∀ N:DSt->Fl->Prop,(∀ s f,C s f->N s f)->t { E with nx:=N } sl fl) (q:∀ s f,C s f->u E s f):fSeq t u E sl fl:=h (u E) q
@[irreducible] def dictOR:List DV->(DV->Prop)->Prop
  | [v],Q=>(match v.items with
    | some ds=>(match pairsD ds with
      | some kvs=>Q (.own (.dk (mergeD [] kvs)))
      | none=>False)
    | none=>False)
  | _,_=>False
def dDictO (ta:TDA):TD:=dCB dictOR ta
theorem aoY {v:DV} {ds:List D} {kvs:List (Key × D)} {Q:DV->Prop} (h1:v.items=some ds) (h2:pairsD ds=some kvs) (q:Q (.own (.dk (mergeD [] kvs)))):dictOR [v] Q:=by
  unfold dictOR
  dsimp only
  rw [h1]
  dsimp only
  rw [h2];exact q
theorem anx {X:Cx} {W:WX} {a:Expr} {ta:TDA} {p pos:Pos} (hc:X.calm=true) (hg:Gl X "dict") (hm:X.mg "dict"=none) (ha:DA X W [a] ta) (he:starEach [a] X.env=(false,eval a X.env)::starEach [] X.env:=by rfl) (hpl:(backTo pos (starEach [] X.env)).any (·.1)=false:=by rfl):DE X W (.Call (.Name "dict" p) [a] [] pos) (dDictO ta):=by
  refine aaD (pe_callTy (call_dictP hc) hg hm (by decide +kernel) ha (by decide) (by decide) he hpl) fun σ H R ⟨G,so,sl,Q,E,rep,q,hq,hx⟩=>?_
  refine ⟨G,so,sl,_,E,rep,q,fun vs H1 G1 ds s1 p1 w h1=>?_,hx⟩
  unfold dictOR at h1
  split at h1
  · obtain ⟨v,rfl,w1,_⟩:=w.v1
    split at h1
    · rename_i es e
      split at h1
      · rename_i kvs ek
        obtain ⟨c,ws,rfl,g1,a1⟩:=VOk.list p1.rep.h w1 e
        obtain ⟨ps,ms,rfl,h2,h3⟩:=ah1 p1.rep.h.ex a1 ek
        refine ⟨c,ps,ms,rfl,SqL.of g1,h2,fun l n=>?_⟩
        have gl:G1 l=none:=p1.rep.h.ex.free n
        exact hq _ _ G1 (.own (.dk (mergeD [] kvs))) s1 (p1.thenV ⟨Ex.refl _,p1.rep.h.alloc n,fun b o eb _=>Ex.new n b o eb,fun _ _ g _=>g,⟨l,rfl,gl,p1.rep.h.there n,_,upd_same,FAll.merge h3 .nil⟩,fun b o _ q=>by cases q;exact n,fun _ z=>nomatch z⟩) h1
      · exact h1.elim
    · exact h1.elim
  · exact h1.elim
end DL
namespace K13
open PySem PySem.Spec PyProof.Rows L2 DL
structure Tx (P:Program) (K:PySem.W.Frag) (mg:Str->Option Value) (base:Heap) (a:Nat->Addr) (d:Nat->FuncData):Prop where
  tb:∀ q∈lamFns K,LamX.TabB base mg q.1 q.2.1
  F_is_whole:FunD K "is_whole" "is_whole" (defArgs acW) (defBody acW) (defScope acW) [] [] (a aaZ) (d aaZ)
  m_is_whole:mg "is_whole"=some (.ref (a aaZ))
  F_is_number:FunD K "is_number" "is_number" (defArgs acs) (defBody acs) (defScope acs) [] [] (a ab6) (d ab6)
  m_is_number:mg "is_number"=some (.ref (a ab6))
  F_is_ratio:FunD K "is_ratio" "is_ratio" (defArgs acX) (defBody acX) (defScope acX) [] [] (a abS) (d abS)
  m_is_ratio:mg "is_ratio"=some (.ref (a abS))
  F_is_valued:FunD K "is_valued" "is_valued" (defArgs acr) (defBody acr) (defScope acr) [] [] (a ab4) (d ab4)
  m_is_valued:mg "is_valued"=some (.ref (a ab4))
  F_lowest:FunD K "lowest" "lowest" (defArgs adO) (defBody adO) (defScope adO) [] [] (a ady) (d ady)
  m_lowest:mg "lowest"=some (.ref (a ady))
  F_ratio_of:FunD K "ratio_of" "ratio_of" (defArgs acV) (defBody acV) (defScope acV) [] [] (a abR) (d abR)
  m_ratio_of:mg "ratio_of"=some (.ref (a abR))
  F_plus:FunD K "plus" "plus" (defArgs agx) (defBody agx) (defScope agx) [] [] (a afR) (d afR)
  m_plus:mg "plus"=some (.ref (a afR))
  F_below:FunD K "below" "below" (defArgs aeT) (defBody aeT) (defScope aeT) [] [] (a aek) (d aek)
  m_below:mg "below"=some (.ref (a aek))
  F_is_name:FunD K "is_name" "is_name" (defArgs ac7) (defBody ac7) (defScope ac7) [] [] (a ac9) (d ac9)
  m_is_name:mg "is_name"=some (.ref (a ac9))
  F_is_layer:FunD K "is_layer" "is_layer" (defArgs acY) (defBody acY) (defScope acY) [.int 2] [] (a acC) (d acC)
  m_is_layer:mg "is_layer"=some (.ref (a acC))
  F_is_square:FunD K "is_square" "is_square" (defArgs abZ) (defBody abZ) (defScope abZ) [] [] (a ab5) (d ab5)
  m_is_square:mg "is_square"=some (.ref (a ab5))
  F_first_fault:FunD K "first_fault" "first_fault" (defArgs aa9) (defBody aa9) (defScope aa9) [] [] (a abp) (d abp)
  m_first_fault:mg "first_fault"=some (.ref (a abp))
  F_checked_table:FunD K "checked_table" "checked_table" (defArgs aaU) (defBody aaU) (defScope aaU) [] [] (a aaV) (d aaV)
  m_checked_table:mg "checked_table"=some (.ref (a aaV))
  F_checked_places:FunD K "checked_places" "checked_places" (defArgs aaM) (defBody aaM) (defScope aaM) [] [] (a aaN) (d aaN)
  m_checked_places:mg "checked_places"=some (.ref (a aaN))
  F_World___init__:FunD K "__init__" "World.__init__" (defArgs aa3) (defBody aa3) (defScope aa3) [] [("cart",.non)] (a aas) (d aas)
  mk_World:Mk K (He.ga K "World") (a aas)
  F_World_size:FunD K "size" "World.size" (defArgs ab3) (defBody ab3) (defScope ab3) [] [] (a abe) (d abe)
  pr_World_size:PropOf K (He.ga K "World") "size" (He.ma K (He.ga K "World") "size") (a abe)
  F_World_layers:FunD K "layers" "World.layers" (defArgs abv) (defBody abv) (defScope abv) [] [] (a aap) (d aap)
  pr_World_layers:PropOf K (He.ga K "World") "layers" (He.ma K (He.ga K "World") "layers") (a aap)
  F_World_names:FunD K "names" "World.names" (defArgs abO) (defBody abO) (defScope abO) [] [] (a aaC) (d aaC)
  me_World_names:Meth K (He.ga K "World") "names" (a aaC)
  F_World___contains__:FunD K "__contains__" "World.__contains__" (defArgs aay) (defBody aay) (defScope aay) [] [] (a aam) (d aam)
  me_World___contains__:Meth K (He.ga K "World") "__contains__" (a aam)
  F_World_place:FunD K "place" "World.place" (defArgs abN) (defBody abN) (defScope abN) [] [] (a aaK) (d aaK)
  me_World_place:Meth K (He.ga K "World") "place" (a aaK)
  F_World_rows_of:FunD K "rows_of" "World.rows_of" (defArgs abh) (defBody abh) (defScope abh) [] [] (a aaW) (d aaW)
  me_World_rows_of:Meth K (He.ga K "World") "rows_of" (a aaW)
  F_World_table:FunD K "table" "World.table" (defArgs abn) (defBody abn) (defScope abn) [.str "foot"] [] (a aaB) (d aaB)
  me_World_table:Meth K (He.ga K "World") "table" (a aaB)
  F_World___len__:FunD K "__len__" "World.__len__" (defArgs abi) (defBody abi) (defScope abi) [] [] (a aaX) (d aaX)
  me_World___len__:Meth K (He.ga K "World") "__len__" (a aaX)
  F_World___bool__:FunD K "__bool__" "World.__bool__" (defArgs aa4) (defBody aa4) (defScope aa4) [] [] (a aaP) (d aaP)
  me_World___bool__:Meth K (He.ga K "World") "__bool__" (a aaP)
  F_World___eq__:FunD K "__eq__" "World.__eq__" (defArgs abw) (defBody abw) (defScope abw) [] [] (a abf) (d abf)
  me_World___eq__:Meth K (He.ga K "World") "__eq__" (a abf)
  F_names_text:FunD K "names_text" "names_text" (defArgs abY) (defBody abY) (defScope abY) [] [] (a abD) (d abD)
  m_names_text:mg "names_text"=some (.ref (a abD))
  F_World___repr__:FunD K "__repr__" "World.__repr__" (defArgs aa2) (defBody aa2) (defScope aa2) [] [] (a aaO) (d aaO)
  me_World___repr__:Meth K (He.ga K "World") "__repr__" (a aaO)
  F__law_source:FunD K "_law_source" "_law_source" (defArgs abJ) (defBody abJ) (defScope abJ) [] [] (a ach) (d ach)
  m__law_source:mg "_law_source"=some (.ref (a ach))
  F__law_draw:FunD K "_law_draw" "_law_draw" (defArgs abM) (defBody abM) (defScope abM) [] [] (a aar) (d aar)
  m__law_draw:mg "_law_draw"=some (.ref (a aar))
  F__law_of:FunD K "_law_of" "_law_of" (defArgs ado) (defBody ado) (defScope ado) [] [] (a acm) (d acm)
  m__law_of:mg "_law_of"=some (.ref (a acm))
  F__law_mixed:FunD K "_law_mixed" "_law_mixed" (defArgs ab0) (defBody ab0) (defScope ab0) [] [] (a abd) (d abd)
  m__law_mixed:mg "_law_mixed"=some (.ref (a abd))
  F__law_same:FunD K "_law_same" "_law_same" (defArgs acu) (defBody acu) (defScope acu) [] [] (a ab8) (d ab8)
  m__law_same:mg "_law_same"=some (.ref (a ab8))
  F__law_fields:FunD K "_law_fields" "_law_fields" (defArgs abL) (defBody abL) (defScope abL) [] [] (a aci) (d aci)
  m__law_fields:mg "_law_fields"=some (.ref (a aci))
  F__law_ask:FunD K "_law_ask" "_law_ask" (defArgs s__law_ask) (defBody s__law_ask) (defScope s__law_ask) [] [] (a abz) (d abz)
  m__law_ask:mg "_law_ask"=some (.ref (a abz))
  F__law_low:FunD K "_law_low" "_law_low" (defArgs acZ) (defBody acZ) (defScope acZ) [] [] (a abT) (d abT)
  m__law_low:mg "_law_low"=some (.ref (a abT))
  F__law_plus:FunD K "_law_plus" "_law_plus" (defArgs acv) (defBody acv) (defScope acv) [] [] (a ab9) (d ab9)
  m__law_plus:mg "_law_plus"=some (.ref (a ab9))
  F__law_less:FunD K "_law_less" "_law_less" (defArgs acw) (defBody acw) (defScope acw) [] [] (a acb) (d acb)
  m__law_less:mg "_law_less"=some (.ref (a acb))
  F__law_least:FunD K "_law_least" "_law_least" (defArgs ab2) (defBody ab2) (defScope ab2) [] [] (a abH) (d abH)
  m__law_least:mg "_law_least"=some (.ref (a abH))
  F__law_names:FunD K "_law_names" "_law_names" (defArgs abl) (defBody abl) (defScope abl) [] [] (a abG) (d abG)
  m__law_names:mg "_law_names"=some (.ref (a abG))
  F__law_length:FunD K "_law_length" "_law_length" (defArgs abK) (defBody abK) (defScope abK) [] [] (a abq) (d abq)
  m__law_length:mg "_law_length"=some (.ref (a abq))
  F__law_bare:FunD K "_law_bare" "_law_bare" (defArgs acx) (defBody acx) (defScope acx) [] [] (a acd) (d acd)
  m__law_bare:mg "_law_bare"=some (.ref (a acd))
  F__law_closed:FunD K "_law_closed" "_law_closed" (defArgs abm) (defBody abm) (defScope abm) [] [] (a abr) (d abr)
  m__law_closed:mg "_law_closed"=some (.ref (a abr))
  F__law_table:FunD K "_law_table" "_law_table" (defArgs abB) (defBody abB) (defScope abB) [] [] (a abE) (d abE)
  m__law_table:mg "_law_table"=some (.ref (a abE))
  F__law_spread_plan:FunD K "_law_spread_plan" "_law_spread_plan" (defArgs aau) (defBody aau) (defScope aau) [] [] (a aaz) (d aaz)
  m__law_spread_plan:mg "_law_spread_plan"=some (.ref (a aaz))
  F__law_made:FunD K "_law_made" "_law_made" (defArgs ab1) (defBody ab1) (defScope ab1) [] [] (a aca) (d aca)
  m__law_made:mg "_law_made"=some (.ref (a aca))
  F__law_told:FunD K "_law_told" "_law_told" (defArgs abI) (defBody abI) (defScope abI) [] [] (a ab7) (d ab7)
  m__law_told:mg "_law_told"=some (.ref (a ab7))
  F__law_places_of:FunD K "_law_places_of" "_law_places_of" (defArgs aa1) (defBody aa1) (defScope aa1) [] [] (a aax) (d aax)
  m__law_places_of:mg "_law_places_of"=some (.ref (a aax))
  F__law_shown:FunD K "_law_shown" "_law_shown" (defArgs abC) (defBody abC) (defScope abC) [] [] (a abF) (d abF)
  m__law_shown:mg "_law_shown"=some (.ref (a abF))
  F_law:FunD K "law" "law" (defArgs aeS) (defBody aeS) (defScope aeS) [] [] (a aij) (d aij)
  m_World:mg "World"=some (.ref (He.ga K "World"))
  cl_World:Cls K (He.ga K "World")
  na_World_own_tables:NoAttr K (He.ga K "World") "own_tables"
  na_World_own_names:NoAttr K (He.ga K "World") "own_names"
  t_LAYERS:GlobT K mg "LAYERS" ([.str "foot",.str "cart"])
  cc_World_MOST:CConst K (He.ga K "World") "MOST" (.int 9)
  ci_World:CInst K (He.ga K "World")
  x_InvalidRatio:XCls P K mg (He.ga K "InvalidRatio") ["given"] acI
  xe_InvalidRatio:ErrC K (csA K) (He.ga K "InvalidRatio")
  x_InvalidTable:XCls P K mg (He.ga K "InvalidTable") ["layer"] ad9
  xe_InvalidTable:ErrC K (csA K) (He.ga K "InvalidTable")
  x_InvalidWay:XCls P K mg (He.ga K "InvalidWay") ["layer","start","goal"] ae5
  xe_InvalidWay:ErrC K (csA K) (He.ga K "InvalidWay")
  x_TooMany:XCls P K mg (He.ga K "TooMany") ["subject","most"] aey
  xe_TooMany:ErrC K (csA K) (He.ga K "TooMany")
  x_InvalidName:XCls P K mg (He.ga K "InvalidName") ["given"] ac1
  xe_InvalidName:ErrC K (csA K) (He.ga K "InvalidName")
  x_InvalidPlace:XCls P K mg (He.ga K "InvalidPlace") ["given"] acJ
  xe_InvalidPlace:ErrC K (csA K) (He.ga K "InvalidPlace")
  x_UnknownName:XCls P K mg (He.ga K "UnknownName") ["name"] ac0
  xe_UnknownName:ErrC K (csA K) (He.ga K "UnknownName")
  x_InvalidLayer:XCls P K mg (He.ga K "InvalidLayer") ["given"] acK
  xe_InvalidLayer:ErrC K (csA K) (He.ga K "InvalidLayer")
  m_InvalidRatio:mg "InvalidRatio"=some (.ref (He.ga K "InvalidRatio"))
  m_InvalidTable:mg "InvalidTable"=some (.ref (He.ga K "InvalidTable"))
  m_InvalidWay:mg "InvalidWay"=some (.ref (He.ga K "InvalidWay"))
  m_TooMany:mg "TooMany"=some (.ref (He.ga K "TooMany"))
  m_InvalidName:mg "InvalidName"=some (.ref (He.ga K "InvalidName"))
  m_InvalidPlace:mg "InvalidPlace"=some (.ref (He.ga K "InvalidPlace"))
  m_UnknownName:mg "UnknownName"=some (.ref (He.ga K "UnknownName"))
  m_InvalidLayer:mg "InvalidLayer"=some (.ref (He.ga K "InvalidLayer"))
  m_MilesError:mg "MilesError"=some (.ref (He.ga K "MilesError"))
  m_Missing:mg "Missing"=some (.ref (He.ga K "Missing"))
  m_NothingLeft:mg "NothingLeft"=some (.ref (He.ga K "NothingLeft"))
  n_abs:mg "abs"=none
  n_all:mg "all"=none
  n_any:mg "any"=none
  n_bool:mg "bool"=none
  n_dict:mg "dict"=none
  n_int:mg "int"=none
  n_isinstance:mg "isinstance"=none
  n_len:mg "len"=none
  n_list:mg "list"=none
  n_range:mg "range"=none
  n_repr:mg "repr"=none
  n_sorted:mg "sorted"=none
  n_str:mg "str"=none
  n_super:mg "super"=none
  n_tuple:mg "tuple"=none
  b_gcd:mg "gcd"=some (.builtin "math.gcd")
  c_ZERO:GlobD K mg "ZERO" (.tup [.int 0,.int 1])
  c_LETTERS:GlobD K mg "LETTERS" (.str "abcdefghijklmnopqrstuvwxyz")
  c_LAYERS:GlobD K mg "LAYERS" (.tup [.str "foot",.str "cart"])
  c_MOST_NAMED:GlobD K mg "MOST_NAMED" (.int 5)
  c_MOST_PLACES:GlobD K mg "MOST_PLACES" (.int 9)
theorem akH (ns:List Int) (lo hi:Option Int):cutV (ns.map V.int) lo hi=(cut ns lo hi).map V.int:=by
  unfold cutV cut
  rw [List.length_map,List.map_take,List.map_drop]
theorem ajq {α:Type} {xs:List α} {n:Int} (h0:0<=n) (h1:n < (xs.length:Int)):∃ x,atI xs n=some x/\x∈xs:=by
  have hj:n.toNat < xs.length:=by omega
  refine ⟨xs[n.toNat],?_,List.getElem_mem hj⟩
  unfold atI ixN
  rw [if_pos h0,if_pos h1]
  exact List.getElem?_eq_getElem hj
theorem aed {n:Nat} (h:n<=szl):(n:Int) < 2 ^ 64:=by
  have:szl=16777216:=rfl
  omega
section
variable {P:Program} {w:World} {K:PySem.W.Frag} {mg:Str->Option Value} {base:Heap} {a:Nat->Addr} {d:Nat->FuncData}
abbrev aid:List Str:=["_law_script","_law_seed","_law_cell"]
theorem ac2:FnScope aid ["_law_script"] (defScope abJ):=⟨rfl,rfl,rfl,by decide +kernel,rfl,by decide +kernel,by decide +kernel⟩
theorem ahe (T:Tx P K mg base a d):FnR P w K mg base 1 (a ach) (d ach) ["_law_script"] (spSource K):=by
  refine akC T.F__law_source ac2 (fun vs H Q E h=>?_) (fun cdv A outer s H vs Q E hr hg h=>?_)
  · obtain ⟨c,ns,rfl,_⟩:=h;rfl
  · obtain ⟨c,ns,rfl,hS,hlen,q⟩:=h
    refine ⟨_,pss_cons (ps_set (i:=1) ac2.nd rfl (.inl rfl) pe_int)
      (pss_cons (ps_for (passes_of rfl) rfl (pi_list (pe_slice sl_list (pv 0) po_none (po_some pe_int))) (pg_name (i:=2) ac2.nd rfl (.inl rfl))
        (pss_one (ps_set (i:=1) ac2.nd rfl (.inl rfl) (pe_op op_mod (pe_callTy call_int1 (by rfl) T.n_int (by decide +kernel) (pa_cons (pe_op op_add (pe_op op_add (pe_op op_mul (pv 1) pe_int) (pe_op op_mod (pe_callTy call_int1 (by rfl) T.n_int (by decide +kernel) (pa_cons (pv 2) pa_nil)) pe_int)) pe_int) pa_nil)) pe_int))))
      (pss_one (ps_ret (pe_lst (pa_cons (pe_callTy call_list_of (by rfl) T.n_list (by decide +kernel) (pa_cons (pe_slice sl_list (pv 0) po_none (po_some pe_int)) pa_nil)) (pa_cons pe_int (pa_cons pe_int (pa_cons (pv 1) (pa_cons pe_int pa_nil))))))))),?_⟩
    refine ⟨.ref c,rfl,63,rfl,c,ns.map V.int,rfl,hS,fun l nl=>⟨l,rfl,⟨_,SqL.of upd_same⟩,?_⟩⟩
    refine for_list (K:=K) (a:=l) (xs:=cutV (ns.map V.int) none (some 63)) (fun i σ H2=>∃ sd v,σ=[some (.ref c),some (.int sd),v]/\Ex H H2/\H2 l=some (.lst (cutV (ns.map V.int) none (some 63)))/\0<=sd/\sd < 4294967296) ⟨10040,none,rfl,Ex.new nl,upd_same,by decide,by decide⟩ (fun i σ H2 _ ⟨_,_,_,_,e,_⟩=>SqL.of e) ?_ ?_
    · rintro i y σ H2 hi ⟨sd,v,rfl,ex,el,h0,h1⟩
      obtain ⟨z,rfl⟩:∃ z,y=V.int z:=by
        rw [akH,List.getElem?_map] at hi
        cases e:(cut ns none (some 63))[i]? with
        | none=>rw [e] at hi;cases hi
        | some z=>rw [e] at hi;exact ⟨z,(Option.some.inj hi).symm⟩
      refine ⟨_,rfl,_,_,rfl,rfl,.inr ⟨by decide,by decide⟩,_,rfl,.inl ⟨z,rfl,_,_,rfl,rfl,(by show (0:Int) < 2147483353;decide),_,_,rfl,rfl,_,_,rfl,rfl,.inl ⟨_,rfl,_,_,rfl,rfl,(by show (0:Int) < 2147483587;decide),?_⟩⟩⟩
      refine ⟨_,_,rfl,ex,el,Int.emod_nonneg _ (by decide),Int.lt_trans (Int.emod_lt_of_pos _ (by decide)) (by decide)⟩
    · rintro σ H2 ⟨sd,v,rfl,ex,el,h0,h1⟩
      refine ⟨.ref c,rfl,63,rfl,c,ns.map V.int,rfl,ex_l ex hS,fun l2 n2=>⟨l2,_,rfl,.inl (SqL.of upd_same),fun l3 n3=>?_⟩⟩
      refine ⟨.int sd,rfl,by show 5<=sizeLine;decide,fun p np=>?_⟩
      have n23:H2 l3=none:=(Ex.new (o:=.lst (cutV (ns.map V.int) none (some 63))) n2).free n3
      have e3:Ex H2 (upd (upd (upd H2 l2 (.lst (cutV (ns.map V.int) none (some 63)))) l3 (.lst (cutV (ns.map V.int) none (some 63)))) p (.lst [.ref l3,.int 0,.int 0,.int sd,.int 0])):=(Ex.new n2).trans ((Ex.new n3).trans (Ex.new np))
      have ne:l3≠p:=fun e=>by subst e;rw [upd_same] at np;cases np
      refine q _ p l3 (cut ns none (some 63)) sd (ex.trans e3) ne upd_same (by rw [upd_ne ne,upd_same,akH]) ?_ h0 h1
      exact Nat.le_trans (by unfold cut;rw [List.length_take,List.length_drop];omega) hlen
abbrev n__law_draw:List Str:=["_law_src","_law_many","_law_cell","_law_digit","_law_root","_law_grown"]
theorem ac6:FnScope n__law_draw ["_law_src","_law_many"] (defScope abM):=⟨rfl,rfl,rfl,by decide +kernel,rfl,by decide +kernel,by decide +kernel⟩
def SrcAt (p:Addr) (H H2:Hp) (c:Addr) (i r sd n:Int):Prop:=(∀ b,b≠p->H2 b=H b)/\H2 p=some (.lst [.ref c,.int i,.int r,.int sd,.int n])/\0<=i/\0<=r/\0<=sd/\sd < 4294967296
theorem ald {m:Int} (h0:0 < m) (h:m < 2 ^ 64):m.natAbs.log2 < 9000:=by
  have:m.natAbs.log2 < 64:=(Nat.log2_lt (by omega)).mpr (by omega)
  omega
theorem akq {x m:Int} (h0:0 < m) (h:m<=4294967296):(-(2 ^ 64) < x % m/\x % m < 2 ^ 64)/\0<=x % m/\x % m < m:=by
  have h1:=Int.emod_nonneg x (show m≠0 by omega)
  have h2:=Int.emod_lt_of_pos x h0
  exact ⟨⟨by omega,by omega⟩,h1,h2⟩
theorem acz (T:Tx P K mg base a d):FnG P w K mg base 1 (a aar) (d aar) ["_law_src","_law_many"] spDraw:=by
  refine FnR.g (akC T.F__law_draw ac6 (fun vs H Q E h=>?_) (fun cdv A outer s H vs Q E hr hg h=>?_)) (fun args Q E h=>?_)
  · obtain ⟨G,so,as,QD,ED,_,w1,⟨m,rfl,_⟩,_⟩:=h
    exact w1.length
  · obtain ⟨G,so,as,QD,ED,hrep,w1,⟨m,rfl,hm0,hm1,hq⟩,hQ,_⟩:=h
    obtain ⟨v1,v2,rfl,⟨p,⟨c,hps⟩,rfl⟩,wm,_⟩:=w1.v2
    cases wm
    obtain ⟨gp,ms,i0,r0,sd0,n0,hp,hc,hms,hi0,hr0,hs0,hs1⟩:SrcOk K G H p c:=hrep.vol p (.src c) hps
    have fin:∀ (H2:Hp) (i r sd n k:Int),SrcAt p H H2 c i r sd n->0<=k->k < m->Q (.int k) H2:=fun H2 i r sd n k ⟨e1,e2,e3,e4,e5,e6⟩ k0 k1=>by
      refine hQ (.int k) H2 G (.d (.int k)) ⟨Ex.refl G,⟨fun b o e=>?_,fun b kd e=>?_,hrep.ok,fun b xs e=>?_⟩,fun b o e sb=>?_,fun _ _ g _=>g,.int k,fun _ _ z=>(nomatch z),fun _ z=>(nomatch z)⟩ (hq k k0 k1)
      · rw [e1 b (fun z=>by subst z;rw [gp] at e;cases e)];exact hrep.ex b o e
      · by_cases z:b=p
        · subst z
          obtain rfl:=hrep.ok.uq _ _ _ e hps
          exact ⟨gp,ms,i,r,sd,n,e2,hc,hms,e3,e4,e5,e6⟩
        · exact (hrep.vol b kd e).keep (Ex.refl G) (hrep.vol b kd e).g (e1 b z)
      · by_cases z:b=p
        · subst z;rw [e2] at e;cases e
        · rw [e1 b z] at e;exact hrep.tp b xs e
      · rw [e1 b (fun z=>by subst z;obtain ⟨_,q⟩:=sb (.src c) hps;cases q)];exact e
    have cells:∀ {H2:Hp},(∀ b,b≠p->H2 b=H b)->SqL K H2 c (ms.map V.int):=fun {H2} e1=>ex_l (fun b o e=>by
      rw [e1 b (fun z=>by subst z;rw [gp] at e;cases e)];exact hrep.ex b o e) hc
    obtain ⟨t2,pt2,key⟩:∃ t2,PSs (cxOf (L2N.CX P w) P w K mg base n__law_draw "_law_draw" (defScope abM) (a aar) cdv A outer s H E) ((defBody abM).drop 1) t2/\
        ∀ (H2:Hp) (i r sd n:Int) (y:Option V),SrcAt p H H2 c i r sd n->t2 { nx:=fun _ H'=>Q .non H',rt:=Q } [some (.ref p),some (.int m),y,none,none,none] H2:=by
      refine ⟨_,pss_cons (ps_if (pt_cmpR op_ge (pe_ix ix_list (pv 0) pe_int (fun _ _=>rfl)) (pv 1) (nomark _))
          (pss_cons (ps_set (i:=3) ac6.nd rfl (.inl rfl) (pe_op op_mod (pe_callTy call_int1 (by rfl) T.n_int (by decide +kernel) (pa_cons (pe_ix ix_list (pv 0) pe_int (fun _ _=>rfl)) pa_nil)) (pv 1)))
          (pss_cons (ps_asg (pe_op op_fdivW (pe_ix ix_list (pv 0) pe_int (fun _ _=>rfl)) (pv 1)) (pg_sub (pv 0) pe_int set_list))
          (pss_one (ps_ret (pv 3))))) pss_nil)
        (pss_cons (ps_asg (pe_op op_add (pe_ix ix_list (pv 0) pe_int (fun _ _=>rfl)) pe_int) (pg_sub (pv 0) pe_int set_list))
        (pss_cons (ps_set (i:=4) ac6.nd rfl (.inl rfl) (pe_op op_mod (pe_callTy call_int1 (by rfl) T.n_int (by decide +kernel) (pa_cons (pe_op op_add (pe_ix ix_list (pv 0) pe_int (fun _ _=>rfl)) (pe_op op_mul (pe_ix ix_list (pv 0) pe_int (fun _ _=>rfl)) pe_int)) pa_nil)) pe_int))
        (pss_cons (ps_set (i:=5) ac6.nd rfl (.inl rfl) (pe_op op_mul (pe_op op_mod (pe_callTy call_int1 (by rfl) T.n_int (by decide +kernel) (pa_cons (pe_op op_mul (pv 4) (pv 4)) pa_nil)) pe_int) (pe_op op_add (pe_op op_mod (pe_callTy call_int1 (by rfl) T.n_int (by decide +kernel) (pa_cons (pv 4) pa_nil)) pe_int) pe_int)))
        (pss_cons (ps_asg (pe_op op_mod (pe_callTy call_int1 (by rfl) T.n_int (by decide +kernel) (pa_cons (pe_op op_add (pe_op op_add (pv 5) (pe_op op_mul pe_int (pv 4))) pe_int) pa_nil)) pe_int) (pg_sub (pv 0) pe_int set_list))
        (pss_one (ps_ret (pe_op op_mod (pe_callTy call_int1 (by rfl) T.n_int (by decide +kernel) (pa_cons (pe_op op_add (pe_op op_fdiv (pe_ix ix_list (pv 0) pe_int (fun _ _=>rfl)) pe_int) (pe_op op_mul (pe_op op_mod (pe_callTy call_int1 (by rfl) T.n_int (by decide +kernel) (pa_cons (pe_ix ix_list (pv 0) pe_int (fun _ _=>rfl)) pa_nil)) pe_int) pe_int)) pa_nil)) (pv 1)))))))),?_⟩
      rintro H2 i r sd n y ⟨e1,e2,e3,e4,e5,e6⟩
      have e2L:SqL K H2 p [.ref c,.int i,.int r,.int sd,.int n]:=SqL.of e2
      refine ⟨.ref p,rfl,p,_,2,.int r,rfl,rfl,e2L,rfl,.int m,rfl,r,m,rfl,rfl,_,rfl,ite2 (fun h=>?_) (fun h=>?_)⟩
      · have hrm:m<=r:=of_decide_eq_true h
        refine ⟨.ref p,rfl,p,_,2,.int r,rfl,rfl,e2L,rfl,.inl ⟨r,rfl,.int m,rfl,r,m,rfl,rfl,hm0,?_⟩⟩
        refine ⟨.ref p,rfl,p,_,2,.int r,rfl,rfl,e2L,rfl,.int m,rfl,r,m,rfl,rfl,⟨hm0,ald hm0 hm1⟩,.ref p,rfl,p,_,2,2,rfl,rfl,e2,rfl,?_⟩
        refine ⟨.int (r % m),rfl,?_⟩
        refine fin _ i (r / m) sd n (r % m) ⟨fun b hb=>by rw [upd_ne hb];exact e1 b hb,upd_same,e3,Int.ediv_nonneg e4 (by omega),e5,e6⟩ (Int.emod_nonneg _ (by omega)) (Int.emod_lt_of_pos _ hm0)
      · refine ⟨.ref p,rfl,p,_,4,.int n,rfl,rfl,e2L,rfl,n,1,rfl,rfl,.ref p,rfl,p,_,4,4,rfl,rfl,e2,rfl,?_⟩
        have e3L:SqL K (upd H2 p (.lst ([V.ref c,.int i,.int r,.int sd,.int n].set 4 (.int (n + 1))))) p [.ref c,.int i,.int r,.int sd,.int (n + 1)]:=SqL.of upd_same
        refine ⟨.ref p,rfl,p,_,3,.int sd,rfl,rfl,e3L,rfl,.ref p,rfl,p,_,4,.int (n + 1),rfl,rfl,e3L,rfl,n + 1,9431,rfl,rfl,.inr ⟨by decide,by decide⟩,sd,_,rfl,rfl,.inl ⟨_,rfl,_,2147483629,rfl,rfl,(by show (0:Int) < 2147483629;decide),?_⟩⟩
        obtain ⟨q1,q2,q3⟩:=akq (x:=sd + (n + 1) * 9431) (m:=2147483629) (by decide) (by decide)
        refine ⟨_,rfl,_,rfl,_,_,rfl,rfl,.inl q1,.inl ⟨_,rfl,_,2147483399,rfl,rfl,(by show (0:Int) < 2147483399;decide),_,rfl,.inl ⟨_,rfl,_,39989,rfl,rfl,(by show (0:Int) < 39989;decide),_,9,rfl,rfl,_,_,rfl,rfl,.inl (akq (by decide) (by decide)).1,?_⟩⟩⟩
        refine ⟨_,rfl,_,rfl,29989,_,rfl,rfl,.inl ⟨by decide,by decide⟩,_,_,rfl,rfl,_,991,rfl,rfl,.inl ⟨_,rfl,_,2147483549,rfl,rfl,(by show (0:Int) < 2147483549;decide),.ref p,rfl,p,_,3,3,rfl,rfl,upd_same,rfl,?_⟩⟩
        generalize hg2:((sd + (n + 1) * 9431) % 2147483629 * ((sd + (n + 1) * 9431) % 2147483629) % 2147483399 * ((sd + (n + 1) * 9431) % 2147483629 % 39989 + 9) + 29989 * ((sd + (n + 1) * 9431) % 2147483629) + 991) % 2147483549=sd2
        have s2:0<=sd2:=by rw [<- hg2];exact Int.emod_nonneg _ (by decide)
        have s3:sd2 < 4294967296:=by rw [<- hg2];exact Int.lt_trans (Int.emod_lt_of_pos _ (by decide)) (by decide)
        dsimp only
        rw [hg2,upd_upd]
        have e4L:SqL K (upd H2 p (.lst (([V.ref c,.int i,.int r,.int sd,.int n].set 4 (.int (n + 1))).set 3 (.int sd2)))) p [.ref c,.int i,.int r,.int sd2,.int (n + 1)]:=SqL.of upd_same
        refine ⟨.ref p,rfl,p,_,3,.int sd2,rfl,rfl,e4L,rfl,sd2,73,rfl,rfl,⟨by decide,by decide⟩,.ref p,rfl,p,_,3,.int sd2,rfl,rfl,e4L,rfl,.inl ⟨sd2,rfl,sd2,8521,rfl,rfl,(by show (0:Int) < 8521;decide),_,57,rfl,rfl,.inr ⟨by decide,by decide⟩,_,_,rfl,rfl,.inl ⟨_,rfl,.int m,rfl,_,m,rfl,rfl,hm0,?_⟩⟩⟩
        exact fin _ i r sd2 (n + 1) _ ⟨fun b hb=>by rw [upd_ne hb];exact e1 b hb,upd_same,e3,e4,s2,s3⟩ (Int.emod_nonneg _ (by omega)) (Int.emod_lt_of_pos _ hm0)
    refine ⟨_,pss_cons (ps_if (PW.pt (pw_and (pt_cmpR op_lt (pe_ix ix_list (pv 0) pe_int (fun _ _=>rfl)) (pv 1) (nomark _)) (pw_and1 (pt_cmpR op_lt (pe_ix ix_list (pv 0) pe_int (fun _ _=>rfl)) (pe_callB call_len_seq (by rfl) T.n_len PySem.boot_len (pa_cons (pe_ix ix_list (pv 0) pe_int (fun _ _=>rfl)) pa_nil)) (nomark _)))))
        (pss_cons (ps_set (i:=2) ac6.nd rfl (.inl rfl) (pe_ix ix_list (pe_ix ix_list (pv 0) pe_int (fun _ _=>rfl)) (pe_ix ix_list (pv 0) pe_int (fun _ _=>rfl)) (fun _ _=>rfl)))
        (pss_cons (ps_asg (pe_op op_add (pe_ix ix_list (pv 0) pe_int (fun _ _=>rfl)) pe_int) (pg_sub (pv 0) pe_int set_list))
        (pss_cons (ps_asg (pe_op op_mod (pe_callTy call_int1 (by rfl) T.n_int (by decide +kernel) (pa_cons (pe_op op_add (pe_op op_add (pe_op op_mul (pe_ix ix_list (pv 0) pe_int (fun _ _=>rfl)) pe_int) (pe_op op_mod (pe_callTy call_int1 (by rfl) T.n_int (by decide +kernel) (pa_cons (pv 2) pa_nil)) pe_int)) pe_int) pa_nil)) pe_int) (pg_sub (pv 0) pe_int set_list))
        (pss_one (ps_asg (pe_ifExp (pt_cmpR op_ge (pv 2) (pe_op op_pow pe_int pe_int) (nomark _)) (pv 2) pe_int) (pg_sub (pv 0) pe_int set_list)))))) pss_nil) pt2,?_⟩
    have hpL:SqL K H p [.ref c,.int i0,.int r0,.int sd0,.int n0]:=SqL.of hp
    have S0:SrcAt p H H c i0 r0 sd0 n0:=⟨fun _ _=>rfl,hp,hi0,hr0,hs0,hs1⟩
    refine ⟨.ref p,rfl,p,_,2,.int r0,rfl,rfl,hpL,rfl,.int m,rfl,r0,m,rfl,rfl,_,rfl,ite2 (fun h=>?_) (fun h=>?_)⟩
    · refine ⟨.ref p,rfl,p,_,1,.int i0,rfl,rfl,hpL,rfl,.ref p,rfl,p,_,0,.ref c,rfl,rfl,hpL,rfl,c,ms.map V.int,rfl,.inl (cells fun _ _=>rfl),i0,_,rfl,rfl,_,rfl,ite2 (fun h2=>?_) (fun h2=>?_)⟩
      · have hlt:i0 < ((ms.map V.int).length:Int):=of_decide_eq_true h2
        rw [List.length_map] at hlt
        have hj:i0.toNat < ms.length:=by omega
        have atc:atI (ms.map V.int) i0=some (.int ms[i0.toNat]):=at_of (j:=i0.toNat) (by omega) (by rw [List.getElem?_map,List.getElem?_eq_getElem hj];rfl)
        generalize ms[i0.toNat]=z at atc
        refine ⟨.ref p,rfl,p,_,0,.ref c,rfl,rfl,hpL,rfl,.ref p,rfl,p,_,1,.int i0,rfl,rfl,hpL,rfl,c,_,i0,.int z,rfl,rfl,cells (fun _ _=>rfl),atc,?_⟩
        refine ⟨.ref p,rfl,p,_,1,.int i0,rfl,rfl,hpL,rfl,i0,1,rfl,rfl,.ref p,rfl,p,_,1,1,rfl,rfl,hp,rfl,?_⟩
        have e3L:SqL K (upd H p (.lst ([V.ref c,.int i0,.int r0,.int sd0,.int n0].set 1 (.int (i0 + 1))))) p [.ref c,.int (i0 + 1),.int r0,.int sd0,.int n0]:=SqL.of upd_same
        refine ⟨.ref p,rfl,p,_,3,.int sd0,rfl,rfl,e3L,rfl,sd0,46757,rfl,rfl,.inr ⟨by decide,by decide⟩,.int z,rfl,.inl ⟨z,rfl,z,2147483323,rfl,rfl,(by show (0:Int) < 2147483323;decide),_,_,rfl,rfl,_,31,rfl,rfl,.inl ⟨_,rfl,_,2147483549,rfl,rfl,(by show (0:Int) < 2147483549;decide),.ref p,rfl,p,_,3,3,rfl,rfl,upd_same,rfl,?_⟩⟩⟩
        generalize hg2:(sd0 * 46757 + z % 2147483323 + 31) % 2147483549=sd2
        have s2:0<=sd2:=by rw [<- hg2];exact Int.emod_nonneg _ (by decide)
        have s3:sd2 < 4294967296:=by rw [<- hg2];exact Int.lt_trans (Int.emod_lt_of_pos _ (by decide)) (by decide)
        dsimp only
        rw [hg2,upd_upd]
        refine ⟨.int z,rfl,10,18,rfl,rfl,⟨by decide,by decide,by decide⟩,z,_,rfl,rfl,_,rfl,ite2 (fun h3=>?_) (fun h3=>?_)⟩
        · have hz:(10:Int) ^ (18:Int).toNat<=z:=of_decide_eq_true h3
          refine ⟨.int z,rfl,.ref p,rfl,p,_,2,2,rfl,rfl,upd_same,rfl,?_⟩
          rw [upd_upd]
          exact key _ (i0 + 1) z sd2 n0 (some (.int z)) ⟨fun b hb=>upd_ne hb,upd_same,by omega,Int.le_trans (by decide) hz,s2,s3⟩
        · refine ⟨.ref p,rfl,p,_,2,2,rfl,rfl,upd_same,rfl,?_⟩
          rw [upd_upd]
          exact key _ (i0 + 1) 0 sd2 n0 (some (.int z)) ⟨fun b hb=>upd_ne hb,upd_same,by omega,by decide,s2,s3⟩
      · exact key H i0 r0 sd0 n0 none S0
    · refine iteF ?_
      exact key H i0 r0 sd0 n0 none S0
  · obtain ⟨m,rfl,_⟩:=h;rfl
theorem abu (T:Tx P K mg base a d):Bd K (d aas) ["self","names","foot","cart"] 3 [] [.pos 0,.pos 1,.pos 2,.dfl (.non) (.non)]:=
  aqx T.F_World___init__ [("cart",.non)] (by simp) (by simp) (fun us mv ws=>match us,mv,ws with | [u0,u1,u2],[m0],[]=>[u0,u1,u2,m0] | _,_,_=>[])
    (fun {vs mz zs us mv ws} r1 r2 r3=>by
    rcases r1 with _ | ⟨a0,r1⟩<;>(try rcases r1 with _ | ⟨a1,r1⟩)<;>(try rcases r1 with _ | ⟨a2,r1⟩)<;>(try rcases r1 with _ | ⟨a3,r1⟩)<;>(try rcases r1 with _ | ⟨a4,r1⟩)<;>rcases r2 with _ | ⟨b0,r2⟩<;>(try rcases r2 with _ | ⟨b1,r2⟩)<;>(try rcases r2 with _ | ⟨b2,r2⟩)<;>rcases r3 with _ | ⟨c0,r3⟩<;>(try rcases r3 with _ | ⟨c1,r3⟩)<;>(try rcases r3 with _ | ⟨c2,r3⟩)<;>(try rcases r3 with _ | ⟨c3,r3⟩)<;>first | exact .nil | (repeat (first | exact .nil | refine .cons (by assumption) ?_)))
    (fun _ _ _ _ _ _ us mv ws h1 h2 h3=>match us,mv,ws,h1,h2,h3 with | [_,_,_],[_],[],_,_,_=>⟨_,_,_,_,_,_,rfl,rfl,rfl⟩)
    (fun vs qs h1 h2=>match vs,qs,h1,h2 with | [_,_,_],[],_,_=>rfl) (fun s h v d e=>by subst e;simp at h;first | (obtain ⟨rfl,rfl⟩:=h;intro G;(first | exact .int _ | exact .bl _ | exact .str _ | exact .non);done) | (rcases h with ⟨rfl,rfl⟩ | ⟨rfl,rfl⟩<;>intro G<;>first | exact .int _ | exact .bl _ | exact .str _ | exact .non))
theorem aaL (T:Tx P K mg base a d):Bd K (d aas) ["self","names","foot","cart"] 3 ["cart"] [.pos 0,.pos 1,.pos 2,.kw 0]:=
  aqx T.F_World___init__ [] (by simp) (by simp) (fun us mv ws=>match us,mv,ws with | [u0,u1,u2],[],[w0]=>[u0,u1,u2,w0] | _,_,_=>[])
    (fun {vs mz zs us mv ws} r1 r2 r3=>by
    rcases r1 with _ | ⟨a0,r1⟩<;>(try rcases r1 with _ | ⟨a1,r1⟩)<;>(try rcases r1 with _ | ⟨a2,r1⟩)<;>(try rcases r1 with _ | ⟨a3,r1⟩)<;>(try rcases r1 with _ | ⟨a4,r1⟩)<;>rcases r2 with _ | ⟨b0,r2⟩<;>(try rcases r2 with _ | ⟨b1,r2⟩)<;>(try rcases r2 with _ | ⟨b2,r2⟩)<;>rcases r3 with _ | ⟨c0,r3⟩<;>(try rcases r3 with _ | ⟨c1,r3⟩)<;>(try rcases r3 with _ | ⟨c2,r3⟩)<;>(try rcases r3 with _ | ⟨c3,r3⟩)<;>first | exact .nil | (repeat (first | exact .nil | refine .cons (by assumption) ?_)))
    (fun _ _ _ _ _ _ us mv ws h1 h2 h3=>match us,mv,ws,h1,h2,h3 with | [_,_,_],[],[_],_,_,_=>rfl)
    (fun vs qs h1 h2=>match vs,qs,h1,h2 with | [_,_,_],[_],_,_=>rfl) (fun s h v d e=>by subst e;simp at h)
theorem acQ (T:Tx P K mg base a d):Bd K (d aaC) ["self"] 1 [] [.pos 0]:=
  abX T.F_World_names (fun us ws=>match us,ws with | [u0],[]=>[u0] | _,_=>[])
    (fun _ _ _ _ _ _ us ws h1 h2=>match us,ws,h1,h2 with | [_],[],_,_=>rfl)
    (fun vs qs us ws h1 h2 r1 r2=>match vs,us,qs,ws,h1,h2,r1,r2 with | _,[_],_,[],_,_,.cons u0 .nil,.nil=>.cons u0 .nil) (fun s h v d e=>by subst e;simp at h)
theorem aeH (T:Tx P K mg base a d):Bd K (d aaK) ["self","name"] 1 ["name"] [.pos 0,.kw 0]:=
  abX T.F_World_place (fun us ws=>match us,ws with | [u0],[w0]=>[u0,w0] | _,_=>[])
    (fun _ _ _ _ _ _ us ws h1 h2=>match us,ws,h1,h2 with | [_],[_],_,_=>rfl)
    (fun vs qs us ws h1 h2 r1 r2=>match vs,us,qs,ws,h1,h2,r1,r2 with | _,[_],_,[_],_,_,.cons u0 .nil,.cons w0 .nil=>.cons u0 (.cons w0 .nil)) (fun s h v d e=>by subst e;simp at h)
theorem ag2 (T:Tx P K mg base a d):Bd K (d aaK) ["self","name"] 2 [] [.pos 0,.pos 1]:=
  abX T.F_World_place (fun us ws=>match us,ws with | [u0,u1],[]=>[u0,u1] | _,_=>[])
    (fun _ _ _ _ _ _ us ws h1 h2=>match us,ws,h1,h2 with | [_,_],[],_,_=>rfl)
    (fun vs qs us ws h1 h2 r1 r2=>match vs,us,qs,ws,h1,h2,r1,r2 with | _,[_,_],_,[],_,_,.cons u0 (.cons u1 .nil),.nil=>.cons u0 (.cons u1 .nil)) (fun s h v d e=>by subst e;simp at h)
theorem afM (T:Tx P K mg base a d):Bd K (d aaW) ["self","layer"] 2 [] [.pos 0,.pos 1]:=
  abX T.F_World_rows_of (fun us ws=>match us,ws with | [u0,u1],[]=>[u0,u1] | _,_=>[])
    (fun _ _ _ _ _ _ us ws h1 h2=>match us,ws,h1,h2 with | [_,_],[],_,_=>rfl)
    (fun vs qs us ws h1 h2 r1 r2=>match vs,us,qs,ws,h1,h2,r1,r2 with | _,[_,_],_,[],_,_,.cons u0 (.cons u1 .nil),.nil=>.cons u0 (.cons u1 .nil)) (fun s h v d e=>by subst e;simp at h)
theorem ag1 (T:Tx P K mg base a d):Bd K (d aaB) ["self","layer"] 1 [] [.pos 0,.dfl (.str "foot") (.str "foot")]:=
  akK T.F_World_table (by simp) (fun us ws its=>match us,ws,its with | [u0],[],[t0]=>[u0,t0] | _,_,_=>[])
    (fun _ _ _ _ _ _ _ us ws its h1 h2 h3=>match us,ws,its,h1,h2,h3 with | [_],[],[_],_,_,_=>⟨_,rfl,rfl⟩)
    (fun vs qs us ws its h1 h2 r1 r2 r3=>match vs,us,qs,ws,its,h1,h2,r1,r2,r3 with | _,[_],_,[],[_],_,_,.cons u0 .nil,.nil,.cons t0 .nil=>.cons u0 (.cons t0 .nil)) (fun s h v d e=>by subst e;simp at h;first | (obtain ⟨rfl,rfl⟩:=h;intro G;(first | exact .int _ | exact .bl _ | exact .str _ | exact .non);done) | (rcases h with ⟨rfl,rfl⟩ | ⟨rfl,rfl⟩<;>intro G<;>first | exact .int _ | exact .bl _ | exact .str _ | exact .non))
theorem aex (T:Tx P K mg base a d):Bd K (d aaB) ["self","layer"] 1 ["layer"] [.pos 0,.kw 0]:=
  akK T.F_World_table (by simp) (fun us ws its=>match us,ws,its with | [u0],[w0],[t0]=>[u0,w0] | _,_,_=>[])
    (fun _ _ _ _ _ _ _ us ws its h1 h2 h3=>match us,ws,its,h1,h2,h3 with | [_],[_],[_],_,_,_=>⟨_,rfl,rfl⟩)
    (fun vs qs us ws its h1 h2 r1 r2 r3=>match vs,us,qs,ws,its,h1,h2,r1,r2,r3 with | _,[_],_,[_],[_],_,_,.cons u0 .nil,.cons w0 .nil,.cons t0 .nil=>.cons u0 (.cons w0 .nil)) (fun s h v d e=>by subst e;simp at h)
theorem ag0 (T:Tx P K mg base a d):Bd K (d aaB) ["self","layer"] 2 [] [.pos 0,.pos 1]:=
  akK T.F_World_table (by simp) (fun us ws its=>match us,ws,its with | [u0,u1],[],[t0]=>[u0,u1] | _,_,_=>[])
    (fun _ _ _ _ _ _ _ us ws its h1 h2 h3=>match us,ws,its,h1,h2,h3 with | [_,_],[],[_],_,_,_=>⟨_,rfl,rfl⟩)
    (fun vs qs us ws its h1 h2 r1 r2 r3=>match vs,us,qs,ws,its,h1,h2,r1,r2,r3 with | _,[_,_],_,[],[_],_,_,.cons u0 (.cons u1 .nil),.nil,.cons t0 .nil=>.cons u0 (.cons u1 .nil)) (fun s h v d e=>by subst e;simp at h)
theorem aiE (T:Tx P K mg base a d):Bd K (d acd) ["_law_src","_law_one"] 2 [] [.pos 0,.pos 1]:=
  abX T.F__law_bare (fun us ws=>match us,ws with | [u0,u1],[]=>[u0,u1] | _,_=>[])
    (fun _ _ _ _ _ _ us ws h1 h2=>match us,ws,h1,h2 with | [_,_],[],_,_=>rfl)
    (fun vs qs us ws h1 h2 r1 r2=>match vs,us,qs,ws,h1,h2,r1,r2 with | _,[_,_],_,[],_,_,.cons u0 (.cons u1 .nil),.nil=>.cons u0 (.cons u1 .nil)) (fun s h v d e=>by subst e;simp at h)
theorem agZ (T:Tx P K mg base a d):Bd K (d abr) ["_law_rows"] 1 [] [.pos 0]:=
  abX T.F__law_closed (fun us ws=>match us,ws with | [u0],[]=>[u0] | _,_=>[])
    (fun _ _ _ _ _ _ us ws h1 h2=>match us,ws,h1,h2 with | [_],[],_,_=>rfl)
    (fun vs qs us ws h1 h2 r1 r2=>match vs,us,qs,ws,h1,h2,r1,r2 with | _,[_],_,[],_,_,.cons u0 .nil,.nil=>.cons u0 .nil) (fun s h v d e=>by subst e;simp at h)
theorem aav (T:Tx P K mg base a d):Bd K (d aar) ["_law_src","_law_many"] 2 [] [.pos 0,.pos 1]:=
  abX T.F__law_draw (fun us ws=>match us,ws with | [u0,u1],[]=>[u0,u1] | _,_=>[])
    (fun _ _ _ _ _ _ us ws h1 h2=>match us,ws,h1,h2 with | [_,_],[],_,_=>rfl)
    (fun vs qs us ws h1 h2 r1 r2=>match vs,us,qs,ws,h1,h2,r1,r2 with | _,[_,_],_,[],_,_,.cons u0 (.cons u1 .nil),.nil=>.cons u0 (.cons u1 .nil)) (fun s h v d e=>by subst e;simp at h)
theorem ahu (T:Tx P K mg base a d):Bd K (d abH) ["_law_pairs"] 1 [] [.pos 0]:=
  abX T.F__law_least (fun us ws=>match us,ws with | [u0],[]=>[u0] | _,_=>[])
    (fun _ _ _ _ _ _ us ws h1 h2=>match us,ws,h1,h2 with | [_],[],_,_=>rfl)
    (fun vs qs us ws h1 h2 r1 r2=>match vs,us,qs,ws,h1,h2,r1,r2 with | _,[_],_,[],_,_,.cons u0 .nil,.nil=>.cons u0 .nil) (fun s h v d e=>by subst e;simp at h)
theorem agY (T:Tx P K mg base a d):Bd K (d abq) ["_law_src"] 1 [] [.pos 0]:=
  abX T.F__law_length (fun us ws=>match us,ws with | [u0],[]=>[u0] | _,_=>[])
    (fun _ _ _ _ _ _ us ws h1 h2=>match us,ws,h1,h2 with | [_],[],_,_=>rfl)
    (fun vs qs us ws h1 h2 r1 r2=>match vs,us,qs,ws,h1,h2,r1,r2 with | _,[_],_,[],_,_,.cons u0 .nil,.nil=>.cons u0 .nil) (fun s h v d e=>by subst e;simp at h)
theorem aiD (T:Tx P K mg base a d):Bd K (d acb) ["_law_one","_law_other"] 2 [] [.pos 0,.pos 1]:=
  abX T.F__law_less (fun us ws=>match us,ws with | [u0,u1],[]=>[u0,u1] | _,_=>[])
    (fun _ _ _ _ _ _ us ws h1 h2=>match us,ws,h1,h2 with | [_,_],[],_,_=>rfl)
    (fun vs qs us ws h1 h2 r1 r2=>match vs,us,qs,ws,h1,h2,r1,r2 with | _,[_,_],_,[],_,_,.cons u0 (.cons u1 .nil),.nil=>.cons u0 (.cons u1 .nil)) (fun s h v d e=>by subst e;simp at h)
theorem afT (T:Tx P K mg base a d):Bd K (d abT) ["_law_top","_law_bottom"] 2 [] [.pos 0,.pos 1]:=
  abX T.F__law_low (fun us ws=>match us,ws with | [u0,u1],[]=>[u0,u1] | _,_=>[])
    (fun _ _ _ _ _ _ us ws h1 h2=>match us,ws,h1,h2 with | [_,_],[],_,_=>rfl)
    (fun vs qs us ws h1 h2 r1 r2=>match vs,us,qs,ws,h1,h2,r1,r2 with | _,[_,_],_,[],_,_,.cons u0 (.cons u1 .nil),.nil=>.cons u0 (.cons u1 .nil)) (fun s h v d e=>by subst e;simp at h)
theorem ad1 (T:Tx P K mg base a d):Bd K (d aca) ["_law_plan"] 1 [] [.pos 0]:=
  abX T.F__law_made (fun us ws=>match us,ws with | [u0],[]=>[u0] | _,_=>[])
    (fun _ _ _ _ _ _ us ws h1 h2=>match us,ws,h1,h2 with | [_],[],_,_=>rfl)
    (fun vs qs us ws h1 h2 r1 r2=>match vs,us,qs,ws,h1,h2,r1,r2 with | _,[_],_,[],_,_,.cons u0 .nil,.nil=>.cons u0 .nil) (fun s h v d e=>by subst e;simp at h)
theorem aeP (T:Tx P K mg base a d):Bd K (d abd) ["_law_src","_law_things"] 2 [] [.pos 0,.pos 1]:=
  abX T.F__law_mixed (fun us ws=>match us,ws with | [u0,u1],[]=>[u0,u1] | _,_=>[])
    (fun _ _ _ _ _ _ us ws h1 h2=>match us,ws,h1,h2 with | [_,_],[],_,_=>rfl)
    (fun vs qs us ws h1 h2 r1 r2=>match vs,us,qs,ws,h1,h2,r1,r2 with | _,[_,_],_,[],_,_,.cons u0 (.cons u1 .nil),.nil=>.cons u0 (.cons u1 .nil)) (fun s h v d e=>by subst e;simp at h)
theorem aht (T:Tx P K mg base a d):Bd K (d abG) ["_law_src","_law_many"] 2 [] [.pos 0,.pos 1]:=
  abX T.F__law_names (fun us ws=>match us,ws with | [u0,u1],[]=>[u0,u1] | _,_=>[])
    (fun _ _ _ _ _ _ us ws h1 h2=>match us,ws,h1,h2 with | [_,_],[],_,_=>rfl)
    (fun vs qs us ws h1 h2 r1 r2=>match vs,us,qs,ws,h1,h2,r1,r2 with | _,[_,_],_,[],_,_,.cons u0 (.cons u1 .nil),.nil=>.cons u0 (.cons u1 .nil)) (fun s h v d e=>by subst e;simp at h)
theorem ae3 (T:Tx P K mg base a d):Bd K (d acm) ["_law_src","_law_some"] 2 [] [.pos 0,.pos 1]:=
  abX T.F__law_of (fun us ws=>match us,ws with | [u0,u1],[]=>[u0,u1] | _,_=>[])
    (fun _ _ _ _ _ _ us ws h1 h2=>match us,ws,h1,h2 with | [_,_],[],_,_=>rfl)
    (fun vs qs us ws h1 h2 r1 r2=>match vs,us,qs,ws,h1,h2,r1,r2 with | _,[_,_],_,[],_,_,.cons u0 (.cons u1 .nil),.nil=>.cons u0 (.cons u1 .nil)) (fun s h v d e=>by subst e;simp at h)
theorem abW (T:Tx P K mg base a d):Bd K (d aax) ["_law_plan"] 1 [] [.pos 0]:=
  abX T.F__law_places_of (fun us ws=>match us,ws with | [u0],[]=>[u0] | _,_=>[])
    (fun _ _ _ _ _ _ us ws h1 h2=>match us,ws,h1,h2 with | [_],[],_,_=>rfl)
    (fun vs qs us ws h1 h2 r1 r2=>match vs,us,qs,ws,h1,h2,r1,r2 with | _,[_],_,[],_,_,.cons u0 .nil,.nil=>.cons u0 .nil) (fun s h v d e=>by subst e;simp at h)
theorem aiC (T:Tx P K mg base a d):Bd K (d ab9) ["_law_one","_law_other"] 2 [] [.pos 0,.pos 1]:=
  abX T.F__law_plus (fun us ws=>match us,ws with | [u0,u1],[]=>[u0,u1] | _,_=>[])
    (fun _ _ _ _ _ _ us ws h1 h2=>match us,ws,h1,h2 with | [_,_],[],_,_=>rfl)
    (fun vs qs us ws h1 h2 r1 r2=>match vs,us,qs,ws,h1,h2,r1,r2 with | _,[_,_],_,[],_,_,.cons u0 (.cons u1 .nil),.nil=>.cons u0 (.cons u1 .nil)) (fun s h v d e=>by subst e;simp at h)
theorem ad0 (T:Tx P K mg base a d):Bd K (d ab8) ["_law_found","_law_due"] 2 [] [.pos 0,.pos 1]:=
  abX T.F__law_same (fun us ws=>match us,ws with | [u0,u1],[]=>[u0,u1] | _,_=>[])
    (fun _ _ _ _ _ _ us ws h1 h2=>match us,ws,h1,h2 with | [_,_],[],_,_=>rfl)
    (fun vs qs us ws h1 h2 r1 r2=>match vs,us,qs,ws,h1,h2,r1,r2 with | _,[_,_],_,[],_,_,.cons u0 (.cons u1 .nil),.nil=>.cons u0 (.cons u1 .nil)) (fun s h v d e=>by subst e;simp at h)
theorem ahs (T:Tx P K mg base a d):Bd K (d abF) ["_law_plan"] 1 [] [.pos 0]:=
  abX T.F__law_shown (fun us ws=>match us,ws with | [u0],[]=>[u0] | _,_=>[])
    (fun _ _ _ _ _ _ us ws h1 h2=>match us,ws,h1,h2 with | [_],[],_,_=>rfl)
    (fun vs qs us ws h1 h2 r1 r2=>match vs,us,qs,ws,h1,h2,r1,r2 with | _,[_],_,[],_,_,.cons u0 .nil,.nil=>.cons u0 .nil) (fun s h v d e=>by subst e;simp at h)
theorem adh (T:Tx P K mg base a d):Bd K (d aaz) ["_law_src","_law_names_here","_law_size","_law_layers"] 4 [] [.pos 0,.pos 1,.pos 2,.pos 3]:=
  abX T.F__law_spread_plan (fun us ws=>match us,ws with | [u0,u1,u2,u3],[]=>[u0,u1,u2,u3] | _,_=>[])
    (fun _ _ _ _ _ _ us ws h1 h2=>match us,ws,h1,h2 with | [_,_,_,_],[],_,_=>rfl)
    (fun vs qs us ws h1 h2 r1 r2=>match vs,us,qs,ws,h1,h2,r1,r2 with | _,[_,_,_,_],_,[],_,_,.cons u0 (.cons u1 (.cons u2 (.cons u3 .nil))),.nil=>.cons u0 (.cons u1 (.cons u2 (.cons u3 .nil)))) (fun s h v d e=>by subst e;simp at h)
theorem ahr (T:Tx P K mg base a d):Bd K (d abE) ["_law_src","_law_size"] 2 [] [.pos 0,.pos 1]:=
  abX T.F__law_table (fun us ws=>match us,ws with | [u0,u1],[]=>[u0,u1] | _,_=>[])
    (fun _ _ _ _ _ _ us ws h1 h2=>match us,ws,h1,h2 with | [_,_],[],_,_=>rfl)
    (fun vs qs us ws h1 h2 r1 r2=>match vs,us,qs,ws,h1,h2,r1,r2 with | _,[_,_],_,[],_,_,.cons u0 (.cons u1 .nil),.nil=>.cons u0 (.cons u1 .nil)) (fun s h v d e=>by subst e;simp at h)
theorem aiB (T:Tx P K mg base a d):Bd K (d ab7) ["_law_world"] 1 [] [.pos 0]:=
  abX T.F__law_told (fun us ws=>match us,ws with | [u0],[]=>[u0] | _,_=>[])
    (fun _ _ _ _ _ _ us ws h1 h2=>match us,ws,h1,h2 with | [_],[],_,_=>rfl)
    (fun vs qs us ws h1 h2 r1 r2=>match vs,us,qs,ws,h1,h2,r1,r2 with | _,[_],_,[],_,_,.cons u0 .nil,.nil=>.cons u0 .nil) (fun s h v d e=>by subst e;simp at h)
theorem amK (T:Tx P K mg base a d):Bd K (d aek) ["one","other"] 2 [] [.pos 0,.pos 1]:=
  abX T.F_below (fun us ws=>match us,ws with | [u0,u1],[]=>[u0,u1] | _,_=>[])
    (fun _ _ _ _ _ _ us ws h1 h2=>match us,ws,h1,h2 with | [_,_],[],_,_=>rfl)
    (fun vs qs us ws h1 h2 r1 r2=>match vs,us,qs,ws,h1,h2,r1,r2 with | _,[_,_],_,[],_,_,.cons u0 (.cons u1 .nil),.nil=>.cons u0 (.cons u1 .nil)) (fun s h v d e=>by subst e;simp at h)
theorem afr (T:Tx P K mg base a d):Bd K (d aaN) ["names","size"] 2 [] [.pos 0,.pos 1]:=
  abX T.F_checked_places (fun us ws=>match us,ws with | [u0,u1],[]=>[u0,u1] | _,_=>[])
    (fun _ _ _ _ _ _ us ws h1 h2=>match us,ws,h1,h2 with | [_,_],[],_,_=>rfl)
    (fun vs qs us ws h1 h2 r1 r2=>match vs,us,qs,ws,h1,h2,r1,r2 with | _,[_,_],_,[],_,_,.cons u0 (.cons u1 .nil),.nil=>.cons u0 (.cons u1 .nil)) (fun s h v d e=>by subst e;simp at h)
theorem adK (T:Tx P K mg base a d):Bd K (d aaV) ["layer","rows","size"] 3 [] [.pos 0,.pos 1,.pos 2]:=
  abX T.F_checked_table (fun us ws=>match us,ws with | [u0,u1,u2],[]=>[u0,u1,u2] | _,_=>[])
    (fun _ _ _ _ _ _ us ws h1 h2=>match us,ws,h1,h2 with | [_,_,_],[],_,_=>rfl)
    (fun vs qs us ws h1 h2 r1 r2=>match vs,us,qs,ws,h1,h2,r1,r2 with | _,[_,_,_],_,[],_,_,.cons u0 (.cons u1 (.cons u2 .nil)),.nil=>.cons u0 (.cons u1 (.cons u2 .nil))) (fun s h v d e=>by subst e;simp at h)
theorem agX (T:Tx P K mg base a d):Bd K (d abp) ["rows"] 1 [] [.pos 0]:=
  abX T.F_first_fault (fun us ws=>match us,ws with | [u0],[]=>[u0] | _,_=>[])
    (fun _ _ _ _ _ _ us ws h1 h2=>match us,ws,h1,h2 with | [_],[],_,_=>rfl)
    (fun vs qs us ws h1 h2 r1 r2=>match vs,us,qs,ws,h1,h2,r1,r2 with | _,[_],_,[],_,_,.cons u0 .nil,.nil=>.cons u0 .nil) (fun s h v d e=>by subst e;simp at h)
theorem ajt (T:Tx P K mg base a d):Bd K (d acC) ["value","layers"] 2 [] [.pos 0,.pos 1]:=
  akK T.F_is_layer (by simp) (fun us ws its=>match us,ws,its with | [u0,u1],[],[t0]=>[u0,u1] | _,_,_=>[])
    (fun _ _ _ _ _ _ _ us ws its h1 h2 h3=>match us,ws,its,h1,h2,h3 with | [_,_],[],[_],_,_,_=>⟨_,rfl,rfl⟩)
    (fun vs qs us ws its h1 h2 r1 r2 r3=>match vs,us,qs,ws,its,h1,h2,r1,r2,r3 with | _,[_,_],_,[],[_],_,_,.cons u0 (.cons u1 .nil),.nil,.cons t0 .nil=>.cons u0 (.cons u1 .nil)) (fun s h v d e=>by subst e;simp at h)
theorem aj2 (T:Tx P K mg base a d):Bd K (d ac9) ["value"] 1 [] [.pos 0]:=
  abX T.F_is_name (fun us ws=>match us,ws with | [u0],[]=>[u0] | _,_=>[])
    (fun _ _ _ _ _ _ us ws h1 h2=>match us,ws,h1,h2 with | [_],[],_,_=>rfl)
    (fun vs qs us ws h1 h2 r1 r2=>match vs,us,qs,ws,h1,h2,r1,r2 with | _,[_],_,[],_,_,.cons u0 .nil,.nil=>.cons u0 .nil) (fun s h v d e=>by subst e;simp at h)
theorem aiA (T:Tx P K mg base a d):Bd K (d ab6) ["value","least","most"] 3 [] [.pos 0,.pos 1,.pos 2]:=
  abX T.F_is_number (fun us ws=>match us,ws with | [u0,u1,u2],[]=>[u0,u1,u2] | _,_=>[])
    (fun _ _ _ _ _ _ us ws h1 h2=>match us,ws,h1,h2 with | [_,_,_],[],_,_=>rfl)
    (fun vs qs us ws h1 h2 r1 r2=>match vs,us,qs,ws,h1,h2,r1,r2 with | _,[_,_,_],_,[],_,_,.cons u0 (.cons u1 (.cons u2 .nil)),.nil=>.cons u0 (.cons u1 (.cons u2 .nil))) (fun s h v d e=>by subst e;simp at h)
theorem afS (T:Tx P K mg base a d):Bd K (d abS) ["value"] 1 [] [.pos 0]:=
  abX T.F_is_ratio (fun us ws=>match us,ws with | [u0],[]=>[u0] | _,_=>[])
    (fun _ _ _ _ _ _ us ws h1 h2=>match us,ws,h1,h2 with | [_],[],_,_=>rfl)
    (fun vs qs us ws h1 h2 r1 r2=>match vs,us,qs,ws,h1,h2,r1,r2 with | _,[_],_,[],_,_,.cons u0 .nil,.nil=>.cons u0 .nil) (fun s h v d e=>by subst e;simp at h)
theorem aiz (T:Tx P K mg base a d):Bd K (d ab5) ["value"] 1 [] [.pos 0]:=
  abX T.F_is_square (fun us ws=>match us,ws with | [u0],[]=>[u0] | _,_=>[])
    (fun _ _ _ _ _ _ us ws h1 h2=>match us,ws,h1,h2 with | [_],[],_,_=>rfl)
    (fun vs qs us ws h1 h2 r1 r2=>match vs,us,qs,ws,h1,h2,r1,r2 with | _,[_],_,[],_,_,.cons u0 .nil,.nil=>.cons u0 .nil) (fun s h v d e=>by subst e;simp at h)
theorem aiy (T:Tx P K mg base a d):Bd K (d ab4) ["value"] 1 [] [.pos 0]:=
  abX T.F_is_valued (fun us ws=>match us,ws with | [u0],[]=>[u0] | _,_=>[])
    (fun _ _ _ _ _ _ us ws h1 h2=>match us,ws,h1,h2 with | [_],[],_,_=>rfl)
    (fun vs qs us ws h1 h2 r1 r2=>match vs,us,qs,ws,h1,h2,r1,r2 with | _,[_],_,[],_,_,.cons u0 .nil,.nil=>.cons u0 .nil) (fun s h v d e=>by subst e;simp at h)
theorem adc (T:Tx P K mg base a d):Bd K (d aaZ) ["value"] 1 [] [.pos 0]:=
  abX T.F_is_whole (fun us ws=>match us,ws with | [u0],[]=>[u0] | _,_=>[])
    (fun _ _ _ _ _ _ us ws h1 h2=>match us,ws,h1,h2 with | [_],[],_,_=>rfl)
    (fun vs qs us ws h1 h2 r1 r2=>match vs,us,qs,ws,h1,h2,r1,r2 with | _,[_],_,[],_,_,.cons u0 .nil,.nil=>.cons u0 .nil) (fun s h v d e=>by subst e;simp at h)
theorem ahM (T:Tx P K mg base a d):Bd K (d ady) ["top","bottom"] 2 [] [.pos 0,.pos 1]:=
  abX T.F_lowest (fun us ws=>match us,ws with | [u0,u1],[]=>[u0,u1] | _,_=>[])
    (fun _ _ _ _ _ _ us ws h1 h2=>match us,ws,h1,h2 with | [_,_],[],_,_=>rfl)
    (fun vs qs us ws h1 h2 r1 r2=>match vs,us,qs,ws,h1,h2,r1,r2 with | _,[_,_],_,[],_,_,.cons u0 (.cons u1 .nil),.nil=>.cons u0 (.cons u1 .nil)) (fun s h v d e=>by subst e;simp at h)
theorem ahq (T:Tx P K mg base a d):Bd K (d abD) ["names"] 1 [] [.pos 0]:=
  abX T.F_names_text (fun us ws=>match us,ws with | [u0],[]=>[u0] | _,_=>[])
    (fun _ _ _ _ _ _ us ws h1 h2=>match us,ws,h1,h2 with | [_],[],_,_=>rfl)
    (fun vs qs us ws h1 h2 r1 r2=>match vs,us,qs,ws,h1,h2,r1,r2 with | _,[_],_,[],_,_,.cons u0 .nil,.nil=>.cons u0 .nil) (fun s h v d e=>by subst e;simp at h)
theorem anB (T:Tx P K mg base a d):Bd K (d afR) ["one","other"] 2 [] [.pos 0,.pos 1]:=
  abX T.F_plus (fun us ws=>match us,ws with | [u0,u1],[]=>[u0,u1] | _,_=>[])
    (fun _ _ _ _ _ _ us ws h1 h2=>match us,ws,h1,h2 with | [_,_],[],_,_=>rfl)
    (fun vs qs us ws h1 h2 r1 r2=>match vs,us,qs,ws,h1,h2,r1,r2 with | _,[_,_],_,[],_,_,.cons u0 (.cons u1 .nil),.nil=>.cons u0 (.cons u1 .nil)) (fun s h v d e=>by subst e;simp at h)
theorem acF (T:Tx P K mg base a d):Bd K (d abR) ["value"] 1 [] [.pos 0]:=
  abX T.F_ratio_of (fun us ws=>match us,ws with | [u0],[]=>[u0] | _,_=>[])
    (fun _ _ _ _ _ _ us ws h1 h2=>match us,ws,h1,h2 with | [_],[],_,_=>rfl)
    (fun vs qs us ws h1 h2 r1 r2=>match vs,us,qs,ws,h1,h2,r1,r2 with | _,[_],_,[],_,_,.cons u0 .nil,.nil=>.cons u0 .nil) (fun s h v d e=>by subst e;simp at h)
theorem afo (T:Tx P K mg base a d):Binds K (d abe) ["self"] []:=ac3 T.F_World_size fun _ _ _ _ _ _ us hl=>match us,hl with | [_],_=>rfl
theorem ace (T:Tx P K mg base a d):Binds K (d aap) ["self"] []:=ac3 T.F_World_layers fun _ _ _ _ _ _ us hl=>match us,hl with | [_],_=>rfl
theorem acf (T:Tx P K mg base a d):Binds K (d aam) ["self","name"] []:=ac3 T.F_World___contains__ fun _ _ _ _ _ _ us hl=>match us,hl with | [_,_],_=>rfl
theorem af3 (T:Tx P K mg base a d):Binds K (d aaX) ["self"] []:=ac3 T.F_World___len__ fun _ _ _ _ _ _ us hl=>match us,hl with | [_],_=>rfl
theorem afK (T:Tx P K mg base a d):Binds K (d aaP) ["self"] []:=ac3 T.F_World___bool__ fun _ _ _ _ _ _ us hl=>match us,hl with | [_],_=>rfl
theorem aaY (T:Tx P K mg base a d):Binds K (d abf) ["self","other"] []:=ac3 T.F_World___eq__ fun _ _ _ _ _ _ us hl=>match us,hl with | [_,_],_=>rfl
theorem afJ (T:Tx P K mg base a d):Binds K (d aaO) ["self"] []:=ac3 T.F_World___repr__ fun _ _ _ _ _ _ us hl=>match us,hl with | [_],_=>rfl
abbrev alK:List Str:=["_law_src","_law_some"]
theorem akP:FnScope alK ["_law_src","_law_some"] (defScope ado):=⟨rfl,rfl,rfl,by decide +kernel,rfl,by decide +kernel,by decide +kernel⟩
theorem ahE (T:Tx P K mg base a d):FnG P w K mg base 2 (a acm) (d acm) ["_law_src","_law_some"] spOf:=by
  have G__law_draw:FnG P w K mg base 1 (a aar) (d aar) ["_law_src","_law_many"] spDraw:=acz T
  refine ad3 T.F__law_of akP (fun args Q E h=>?_) (fun args Q E h=>?_) (fun cdv A outer s H E hr hg=>(aaj (aan (aat ix_seq aai (aae (pv 1)) (aag G__law_draw (hr.mono (by decide)) hg (tkOf rfl rfl rfl rfl) (aav T) (by rfl) T.m__law_draw T.F__law_draw.kp (aaa (aac (pv 0)) (aaa (aah call_len aa0 (by rfl) T.n_len PySem.boot_len (aaa (aae (pv 1)) aab)) aab))) (fun _ _=>rfl))))) (fun args Q E h=>?_)
  · obtain ⟨x,rfl,_⟩:=h;rfl
  · obtain ⟨x,rfl,hx,_⟩:=h
    intro i o z
    match i with
    | 0=>cases z
    | 1=>exact hx o (Option.some.inj z)
    | i + 2=>simp at z
  · obtain ⟨x,rfl,hx,h⟩:=h
    cases x with
    | src=>exact h.elim
    | mu _ _ _=>exact h.elim
    | gh _ _=>exact h.elim
    | own o=>
      cases o with
      | lst ds=>
        obtain ⟨h1,h2,h3⟩:=h
        refine acR rfl ?_
        refine ⟨rfl,rfl,_,rfl,by omega,aed h2,fun n h0 h4=>?_⟩
        obtain ⟨y,e1,e2⟩:=ajq h0 h4
        exact aej rfl e1 (h3 y e2)
      | ins _ _ _=>exact h.elim
      | dk _=>exact h.elim
      | dt _=>exact h.elim
    | bor o=>
      cases o with
      | lst ds=>
        obtain ⟨h1,h2,h3⟩:=h
        refine acR rfl ?_
        refine ⟨rfl,rfl,_,rfl,by omega,aed h2,fun n h0 h4=>?_⟩
        obtain ⟨y,e1,e2⟩:=ajq h0 h4
        exact aej rfl e1 (h3 y e2)
      | ins _ _ _=>exact h.elim
      | dk _=>exact h.elim
      | dt _=>exact h.elim
    | see o=>exact absurd rfl (hx o)
    | d y=>
      cases y with
      | str z=>
        obtain ⟨h1,h2,h3⟩:=h
        refine al0 h2 ?_
        refine ⟨rfl,rfl,_,rfl,by omega,aed h2,fun n h0 h4=>?_⟩
        obtain ⟨y,e1,e2⟩:=ajq (xs:=z.cps.toList) h0 (by simpa [Str.length] using h4)
        exact l_ixS h2 e1 (h3 y e2)
      | tup ds=>
        obtain ⟨h1,h2,h3⟩:=h
        refine anV ?_
        refine ⟨rfl,rfl,_,rfl,by omega,aed h2,fun n h0 h4=>?_⟩
        obtain ⟨y,e1,e2⟩:=ajq h0 h4
        exact abb e1 (h3 y e2)
      | lst ds=>
        obtain ⟨h1,h2,h3⟩:=h
        refine acR rfl ?_
        refine ⟨rfl,rfl,_,rfl,by omega,aed h2,fun n h0 h4=>?_⟩
        obtain ⟨y,e1,e2⟩:=ajq h0 h4
        exact aej rfl e1 (h3 y e2)
      | non=>exact h.elim
      | bl _=>exact h.elim
      | int _=>exact h.elim
      | ins _ _=>exact h.elim
      | dk _=>exact h.elim
      | dt _=>exact h.elim
      | any=>exact h.elim
      | raw _=>exact h.elim
      | kt _=>exact h.elim
abbrev ajM:List Str:=["_law_found","_law_due"]
theorem aiP:FnScope ajM ["_law_found","_law_due"] (defScope acu):=⟨rfl,rfl,rfl,by decide +kernel,rfl,by decide +kernel,by decide +kernel⟩
theorem ai5 (T:Tx P K mg base a d):FnG P w K mg base 1 (a ab8) (d ab8) ["_law_found","_law_due"] spSame:=by
  refine ad3 T.F__law_same aiP (fun args Q E h=>?_) (fun args Q E h=>?_) (fun cdv A outer s H E hr hg=>(aaj (aan (acn (abP hr.units) adn (aah (ahL hg (anM hr)) akd (by rfl) T.n_repr (by decide +kernel) (aaa (aae (pv 0)) aab)) (aah (ahL hg (anM hr)) akd (by rfl) T.n_repr (by decide +kernel) (aaa (aae (pv 1)) aab)) (nomark _))))) (fun args Q E h=>?_)
  · obtain ⟨_,_,_,_,rfl,_⟩:=h;rfl
  · obtain ⟨_,_,_,_,rfl,_⟩:=h
    intro i o z
    match i with
    | 0=>cases z
    | 1=>cases z
    | i + 2=>simp at z
  · obtain ⟨d1,d2,p,q,rfl,s1,s2,h⟩:=h
    show reprR [.d d1] (fun x=>reprR [.d d2] (fun y=>eqR false x y (retQ Q)))
    exact aly s1 (aly s2 (l_eqS h))
abbrev aif:List Str:=["_law_e"]
theorem aha:FnScope aif ["_law_e"] (defScope abL):=⟨rfl,rfl,rfl,by decide +kernel,rfl,by decide +kernel,by decide +kernel⟩
theorem ahg (T:Tx P K mg base a d):FnP P w K mg base 1 (a aci) (d aci) ["_law_e"] (spFields K):=by
  refine aqi T.F__law_fields aha (fun p vs H Q E h=>?_) (fun cdv A outer s H vs Q E p h=>?_)
  · obtain ⟨_,_,_,_,_,rfl,_⟩:=h;rfl
  · obtain ⟨C,dx,fs,c,xs,rfl,px,no,hd,lc,fo,hq⟩:=h
    have hp:p∈[p]:=List.mem_singleton.mpr rfl
    refine ⟨_,(pss_cons (ps_if (pt_cmpR op_in_seq (abU hp (pv 0)) (pe_tup (pa_cons pe_str (pa_cons pe_str (pa_cons pe_str (pa_cons pe_str (pa_cons pe_str (pa_cons pe_str (pa_cons pe_str (pa_cons pe_str pa_nil))))))))) (by rfl)) (pss_one (ps_ret (pe_tup (pa_cons (abU hp (pv 0)) pa_nil)))) pss_nil)
      (pss_cons (ps_if (pt_cmpR op_in_seq (abU hp (pv 0)) (pe_tup (pa_cons pe_str (pa_cons pe_str (pa_cons pe_str pa_nil)))) (by rfl)) (pss_one (ps_ret (pe_tup (pa_cons (abU hp (pv 0)) pa_nil)))) pss_nil)
      (pss_cons (ps_if (pt_cmpR op_in_seq (abU hp (pv 0)) (pe_tup (pa_cons pe_str (pa_cons pe_str pa_nil))) (by rfl)) (pss_one (ps_ret (pe_tup (pa_cons (abU hp (pv 0)) pa_nil)))) pss_nil)
      (pss_cons (ps_if (pt_cmpR op_in_seq (abU hp (pv 0)) (pe_tup (pa_cons pe_str (pa_cons pe_str pa_nil))) (by rfl)) (pss_one (ps_ret (pe_tup (pa_cons (abU hp (pv 0)) pa_nil)))) pss_nil)
      (pss_cons (ps_if (pt_cmpR op_in_seq (abU hp (pv 0)) (pe_tup (pa_cons pe_str (pa_cons pe_str pa_nil))) (by rfl)) (pss_one (ps_ret (pe_tup (pa_cons (abU hp (pv 0)) pa_nil)))) pss_nil)
      (pss_cons (ps_if (pt_cmpR op_eq (abU hp (pv 0)) pe_str (nomark _)) (pss_one (ps_ret (pe_tup (pa_cons (abU hp (pv 0)) pa_nil)))) pss_nil)
      (pss_cons (ps_if (pt_cmpR op_eq (abU hp (pv 0)) pe_str (nomark _)) (pss_one (ps_ret (pe_tup (pa_cons (abU hp (pv 0)) (pa_cons (abU hp (pv 0)) (pa_cons (abU hp (pv 0)) pa_nil)))))) pss_nil)
      (pss_cons (ps_if (pt_cmpR op_eq (abU hp (pv 0)) pe_str (nomark _)) (pss_one (ps_ret (pe_tup (pa_cons (abU hp (pv 0)) pa_nil)))) pss_nil)
      (pss_cons (ps_if (pt_cmpR op_eq (abU hp (pv 0)) pe_str (nomark _)) (pss_one (ps_ret (pe_tup (pa_cons (abU hp (pv 0)) pa_nil)))) pss_nil)
      (pss_one (ps_ret (pe_ifExp (pt_cmpR op_eq (abU hp (pv 0)) pe_str (nomark _)) (pe_tup (pa_cons (abU hp (pv 0)) (pa_cons (abU hp (pv 0)) pa_nil))) (pe_tup pa_nil))))))))))))),?_⟩
    have nc:=no "code" (by decide)
    have fin:∀ {H2:Hp} (l:Addr),Ex H H2->H2 l=none->Q (.ref l) (upd H2 l (.tup xs)):=fun l e n=>hq _ l (e.trans (Ex.new n)) (e.free n) upd_same
    have one:∀ {H2:Hp} (f:Str),Ex H H2->f∈errFields->(fs.lookup f).map (fun v=>[v])=some xs->tTup (tCons (tXfP K p f (tVar 0)) tNil) [some (.ref p.1)] H2 Q:=fun {H2} f e hf z=>by
      cases q:fs.lookup f with
      | none=>rw [q] at z;cases z
      | some v=>
        rw [q] at z;cases z
        exact aoe px (no f hf) (e _ _ hd) rfl q ⟨by show 1<=sizeLine;decide,fun l n=>fin l e n⟩
    unfold DL.fieldsOf at fo
    dsimp only at fo
    have e0:Ex H H:=Ex.refl H
    refine t_in ["InvalidRatio","InvalidNumber","InvalidName","InvalidLayer","InvalidPlace","InvalidPoint","InvalidForm","InvalidLimit"] px nc (e0 _ _ hd) rfl lc (by decide) (fun l0 n0=>ite2 (fun z=>?_) (fun z=>?_))
    · rw [if_pos (of_decide_eq_true z)] at fo
      exact one "given" (e0.trans (Ex.new n0)) (by decide) fo
    rw [if_neg (fun y=>z (decide_eq_true y))] at fo
    have e1:=e0.trans (Ex.new (o:=.tup ((["InvalidRatio","InvalidNumber","InvalidName","InvalidLayer","InvalidPlace","InvalidPoint","InvalidForm","InvalidLimit"]:List Str).map V.str)) n0)
    refine t_in ["InvalidRow","InvalidFact","InvalidCommand"] px nc (e1 _ _ hd) rfl lc (by decide) (fun l1 n1=>ite2 (fun z=>?_) (fun z=>?_))
    · rw [if_pos (of_decide_eq_true z)] at fo
      exact one "at" (e1.trans (Ex.new n1)) (by decide) fo
    rw [if_neg (fun y=>z (decide_eq_true y))] at fo
    have e2:=e1.trans (Ex.new (o:=.tup ((["InvalidRow","InvalidFact","InvalidCommand"]:List Str).map V.str)) n1)
    refine t_in ["InvalidStep","UnlikeEnds"] px nc (e2 _ _ hd) rfl lc (by decide) (fun l2 n2=>ite2 (fun z=>?_) (fun z=>?_))
    · rw [if_pos (of_decide_eq_true z)] at fo
      exact one "path" (e2.trans (Ex.new n2)) (by decide) fo
    rw [if_neg (fun y=>z (decide_eq_true y))] at fo
    have e3:=e2.trans (Ex.new (o:=.tup ((["InvalidStep","UnlikeEnds"]:List Str).map V.str)) n2)
    refine t_in ["DuplicateName","UnknownName"] px nc (e3 _ _ hd) rfl lc (by decide) (fun l3 n3=>ite2 (fun z=>?_) (fun z=>?_))
    · rw [if_pos (of_decide_eq_true z)] at fo
      exact one "name" (e3.trans (Ex.new n3)) (by decide) fo
    rw [if_neg (fun y=>z (decide_eq_true y))] at fo
    have e4:=e3.trans (Ex.new (o:=.tup ((["DuplicateName","UnknownName"]:List Str).map V.str)) n3)
    refine t_in ["InvalidText","UnknownScript"] px nc (e4 _ _ hd) rfl lc (by decide) (fun l4 n4=>ite2 (fun z=>?_) (fun z=>?_))
    · rw [if_pos (of_decide_eq_true z)] at fo
      exact one "word" (e4.trans (Ex.new n4)) (by decide) fo
    rw [if_neg (fun y=>z (decide_eq_true y))] at fo
    have e5:=e4.trans (Ex.new (o:=.tup ((["InvalidText","UnknownScript"]:List Str).map V.str)) n4)
    refine t_eq "InvalidTable" px nc (e5 _ _ hd) rfl lc (ite2 (fun z=>?_) (fun z=>?_))
    · rw [if_pos (of_decide_eq_true z)] at fo
      exact one "layer" e5 (by decide) fo
    rw [if_neg (fun y=>z (decide_eq_true y))] at fo
    refine t_eq "InvalidWay" px nc (e5 _ _ hd) rfl lc (ite2 (fun z=>?_) (fun z=>?_))
    · rw [if_pos (of_decide_eq_true z)] at fo
      split at fo
      · rename_i v1 v2 v3 q1 q2 q3
        cases fo
        exact ⟨.ref p.1,rfl,rfl,C,dx,fs,v1,px,no _ (by decide),e5 _ _ hd,q1,.ref p.1,rfl,rfl,C,dx,fs,v2,px,no _ (by decide),e5 _ _ hd,q2,.ref p.1,rfl,rfl,C,dx,fs,v3,px,no _ (by decide),e5 _ _ hd,q3,by show 3<=sizeLine;decide,fun l n=>fin l e5 n⟩
      · cases fo
    rw [if_neg (fun y=>z (decide_eq_true y))] at fo
    refine t_eq "Full" px nc (e5 _ _ hd) rfl lc (ite2 (fun z=>?_) (fun z=>?_))
    · rw [if_pos (of_decide_eq_true z)] at fo
      exact one "limit" e5 (by decide) fo
    rw [if_neg (fun y=>z (decide_eq_true y))] at fo
    refine t_eq "InvalidPage" px nc (e5 _ _ hd) rfl lc (ite2 (fun z=>?_) (fun z=>?_))
    · rw [if_pos (of_decide_eq_true z)] at fo
      exact one "line" e5 (by decide) fo
    rw [if_neg (fun y=>z (decide_eq_true y))] at fo
    refine t_eq "TooMany" px nc (e5 _ _ hd) rfl lc (ite2 (fun z=>?_) (fun z=>?_))
    · rw [if_pos (of_decide_eq_true z)] at fo
      split at fo
      · rename_i v1 v2 q1 q2
        cases fo
        exact ⟨.ref p.1,rfl,rfl,C,dx,fs,v1,px,no _ (by decide),e5 _ _ hd,q1,.ref p.1,rfl,rfl,C,dx,fs,v2,px,no _ (by decide),e5 _ _ hd,q2,by show 2<=sizeLine;decide,fun l n=>fin l e5 n⟩
      · cases fo
    · rw [if_neg (fun y=>z (decide_eq_true y))] at fo
      cases fo
      exact ⟨by show 0<=sizeLine;decide,fun l n=>fin l e5 n⟩
theorem ahp (T:Tx P K mg base a d):Binds K (d aci) ["_law_e"] []:=ac3 T.F__law_fields fun _ _ _ _ _ _ us hl=>match us,hl with | [_],_=>rfl
abbrev acA:List Str:=["_law_f","_law_e"]
theorem agu:FnScope acA ["_law_f"] (defScope s__law_ask):=⟨rfl,rfl,rfl,by decide +kernel,rfl,by decide +kernel,by decide +kernel⟩
theorem aj1 (T:Tx P K mg base a d):Binds K (d abz) ["_law_f"] []:=ac3 T.F__law_ask fun _ _ _ _ _ _ us hl=>match us,hl with | [_],_=>rfl
theorem aqy (T:Tx P K mg base a d) {X:Cx} {q:Str} (h1:X.prog=P) (h2:X.w=w) (h3:X.K=K) (h4:X.mg=mg) (h5:X.base=base) (hr:Room 3 X.A):AskTo X acA "_law_ask" (defScope s__law_ask) (a abz) (defBody s__law_ask) "_law_f" q (TTask K (csA K)):=by
  subst h1 h2 h3 h4 h5
  intro cdg f c' s H Q tl act hc tt
  have hgl:∀ x,(defScope s__law_ask).names.lookup x=some .globalImplicit->Gl (gotC X acA "_law_ask" (defScope s__law_ask) (a abz) cdg s H E0) x:=fun x h=>h
  refine ⟨_,pss_one (akR (X:=gotC X acA "_law_ask" (defScope s__law_ask) (a abz) cdg s H E0) (i:=1) (Wout:=fun _ _ _ _=>False) rfl rfl agu.nd rfl rfl
      (c1:=.ref (He.ga X.K "MilesError")) (c2:=.ref (He.ga X.K "Missing")) (c3:=.ref (He.ga X.K "NothingLeft"))
      ⟨hgl _ (by decide +kernel),by decide,.inl T.m_MilesError⟩ ⟨hgl _ (by decide +kernel),by decide,.inl T.m_Missing⟩ ⟨hgl _ (by decide +kernel),by decide,.inl T.m_NothingLeft⟩ adl
      (tb:=fun W D σ H=>∃ Ech:XK,(∀ cls d (σ':L2.St) H',σ'.length=2->Ech cls d H'->W cls d σ' H')/\σ[0]?=some (some (.ref f))/\H c'=some (LamX.CodeO c' q)/\tl Ech H fun v H'=>[V.str "",v].length<=sizeLine/\∀ l,H' l=none->D.rt (.ref l) (upd H' l (.tup [.str "",v])))
      (ts:=fun e cls d D σ H=>σ[1]?=some (some (.ref e))/\∃ C dx fs c xs,cls=.ref C/\d=some dx/\ErrC X.K (csA X.K) C/\H dx=some (.xd fs)/\fs.lookup ("code":Str)=some (V.str c)/\DL.fieldsOf c fs=some xs/\∀ H2 l,Ex H H2->H l=none->H2 l=some (.tup (.str c::xs))->D.rt (.ref l) H2)
      (fun W pn xe tk _=>?_) (fun e oe cls dd pn zn hv=>?_)),?_⟩
  · refine ⟨fun pins s' σ H' D I h'=>?_⟩
    obtain ⟨Ech,hW,g1,g2,g3⟩:=h'
    exact (pss_one (ps_ret (pe_tup (pa_cons pe_str (pa_cons (act W pn xe Ech _ _ tk hW) pa_nil))))).run pins s' σ H' D I ⟨g1,g2,g3⟩
  · obtain ⟨vs,hvs⟩:=hv
    have hot:L2H.Hot1 ((gotC X acA "_law_ask" (defScope s__law_ask) (a abz) cdg s H E0).suite e ((e,oe)::pn)).A (e,oe):=⟨rfl,vs,hvs,zn.2.2 vs hvs⟩
    have hpn:(e,oe)∈((gotC X acA "_law_ask" (defScope s__law_ask) (a abz) cdg s H E0).suite e ((e,oe)::pn)).pn:=List.mem_cons_self ..
    have rh:L2H.RoomH 1 ((gotC X acA "_law_ask" (defScope s__law_ask) (a abz) cdg s H E0).suite e ((e,oe)::pn)).A:=by
      have r:=L2H.roomH_of (k:=1) (A:=X.A.deeper (envOfC "_law_ask" (defScope s__law_ask) s.heap.objs.size (a abz) cdg)) ((hr.mono (by decide:2<=3)).deeper _)
      exact ⟨r.dp,r.un⟩
    refine ⟨fun pins s' σ H' D I h'=>?_⟩
    obtain ⟨g1,C,dx,fs,c,xs,rfl,rfl,ec,g2,g3,g4,g5⟩:=h'
    refine (pss_one (ps_ret (pe_op op_catA (pe_tup (pa_cons (abU hpn (pv 1)) pa_nil)) (am6 (p:=(e,oe)) (ahg T) rh hot hpn (by rfl) T.m__law_fields T.F__law_fields.kp (ahp T) (pa_cons (pv 1) pa_nil))))).run pins s' σ H' D I ?_
    have px:PinX X.K (e,oe) C dx:=⟨zn,⟨vs,hvs⟩,ec.x⟩
    refine ⟨.ref e,g1,rfl,C,dx,fs,.str c,px,ec.no _ (by decide),g2,g3,?_⟩
    refine ⟨by show 1<=sizeLine;decide,fun l1 n1=>?_⟩
    refine ⟨.ref e,g1,C,dx,fs,c,xs,rfl,px,ec.no,by rw [upd_ne (ne_of_none g2 n1)];exact g2,g3,g4,fun H2 l e2 n2 t2=>?_⟩
    have t1:H2 l1=some (.tup [.str c]):=e2 _ _ upd_same
    have e12:Ex H' H2:=(Ex.new n1).trans e2
    refine ⟨l1,l,[.str c],xs,rfl,rfl,SqT.of t1,SqT.of t2,?_,(fun z=>by cases z),fun _ z=>?_,fun _ _ p np=>?_⟩
    · have:=ak2 g4
      rw [sizeLine_eq];simp;omega
    · subst z
      exact g5 H2 l1 e12 n1 t1
    · exact g5 _ p (e12.trans (Ex.new np)) (e12.free np) upd_same
  · refine ⟨_,fun cls d σ' H' hl h=>?_,rfl,hc,tt⟩
    obtain ⟨C,dx,fs,c,xs,rfl,rfl,ec,g2,g3,g4,g5⟩:=h
    refine ⟨true,ec.is,fun _ e ne=>?_,fun z=>by cases z⟩
    exact ⟨List.getElem?_set_self (by omega),C,dx,fs,c,xs,rfl,rfl,ec,g2,g3,g4,g5⟩
theorem amx (T:Tx P K mg base a d) {cc:Addr} {cdv:Value} {A:Around} {outer:List Env} {s:Shared} {H:Hp} {E:XK} {W:WX} {xs:List Str} {params:Arguments} {body:Expr} {scope:Scope} {te:TD} {k:Nat} {p lpos pos:Pos} (hmem:(cc,He.tabOf K cc,(("law":Str)++".<locals>."++"<lambda>"))∈lamFns K) (hcode:cdv=.ref cc)
    (hr:Room (k + 3) (A.deeper (envOfC "law" (defScope aeS) s.heap.objs.size (a aij) cdv))) (hgd:A.guards=some []) (hp:LamPar params xs) (L:LamN ["_law_script","_law_src","_law_turn","_law_names_here","_law_plan","_law_spots","_law_given","_law_world","_law_again","_law_told_here","_law_odd","_law_bad","_law_asks","_law_other","_law_flat","_law_table_here","_law_row","_law_name_z","_law_one"] (defScope aeS) scope xs)
    (hbody:∀ (A':Around) (outer':List Env) (s':Shared) (H':Hp) (E':XK) (f c':Addr),Room k (A'.deeper (LamX.lamEnv (cxOf (L2N.CX P w) P w K mg base ["_law_script","_law_src","_law_turn","_law_names_here","_law_plan","_law_spots","_law_given","_law_world","_law_again","_law_told_here","_law_odd","_law_bad","_law_asks","_law_other","_law_flat","_law_table_here","_law_row","_law_name_z","_law_one"] "law" (defScope aeS) (a aij) cdv A outer s H E) scope s'.heap.objs.size f c'))->A'.guards=some []->DE (lamC (cxOf (L2N.CX P w) P w K mg base ["_law_script","_law_src","_law_turn","_law_names_here","_law_plan","_law_spots","_law_given","_law_world","_law_again","_law_told_here","_law_odd","_law_bad","_law_asks","_law_other","_law_flat","_law_table_here","_law_row","_law_name_z","_law_one"] "law" (defScope aeS) (a aij) cdv A outer s H E) A' outer' s' H' E' scope f c') (fun cls d _ H'=>E' cls d H') body te) :
    DE (cxOf (L2N.CX P w) P w K mg base ["_law_script","_law_src","_law_turn","_law_names_here","_law_plan","_law_spots","_law_given","_law_world","_law_again","_law_told_here","_law_odd","_law_bad","_law_asks","_law_other","_law_flat","_law_table_here","_law_row","_law_name_z","_law_one"] "law" (defScope aeS) (a aij) cdv A outer s H E) W (.Call (.Name "_law_ask" p) [.Lambda params body scope lpos] [] pos) (dAsk K (csA K) te):=
  aqv (X:=cxOf (L2N.CX P w) P w K mg base ["_law_script","_law_src","_law_turn","_law_names_here","_law_plan","_law_spots","_law_given","_law_world","_law_again","_law_told_here","_law_odd","_law_bad","_law_asks","_law_other","_law_flat","_law_table_here","_law_row","_law_name_z","_law_one"] "law" (defScope aeS) (a aij) cdv A outer s H E) (k:=k) (Ng:=acA) (by rfl) T.m__law_ask T.F__law_ask agu (aj1 T) rfl (.inl rfl) (aqy T rfl rfl rfl rfl rfl (hr.mono (by omega))) hmem (T.tb _ hmem) hcode hp L (hr.mono (by omega)) hgd hbody
end
section
variable {P:Program} {w:World} {K:PySem.W.Frag} {mg:Str->Option Value} {base:Heap} {a:Nat->Addr} {d:Nat->FuncData}
theorem amM (x:D):wholeD x=(isB "int" x && !isB "bool" x):=by cases x<;>rfl
abbrev akW:List Str:=["value"]
theorem ajB:FnScope akW ["value"] (defScope acW):=⟨rfl,rfl,rfl,by decide +kernel,rfl,by decide +kernel,by decide +kernel⟩
theorem adQ (T:Tx P K mg base a d):FnG P w K mg base 1 (a aaZ) (d aaZ) ["value"] (sp1 fun x Q _=>kindD x=true/\Q (.d (.bl (wholeD x)))):=by
  refine acD T.F_is_whole ajB (fun cdv A outer s H E hr hg=>(aaj (aan (afn (aah call_isi afu (by rfl) T.n_isinstance (by decide +kernel) (aaa (aae (pv 0)) (aaa (ahn (T:="int") (by rfl) T.n_int (by decide +kernel)) aab))) (afl (aqs (aah call_isi afu (by rfl) T.n_isinstance (by decide +kernel) (aaa (aae (pv 0)) (aaa (ahn (T:="bool") (by rfl) T.n_bool (by decide +kernel)) aab))))))))) (fun x Q E h=>?_)
  replace h:kindD x=true/\Q (.d (.bl (wholeD x))):=h
  obtain ⟨k,h⟩:=h
  refine ak1 rfl k (by decide) ?_
  rw [amM] at h
  refine br (fun e=>?_) (fun e=>?_)
  · refine ak1 rfl k (by decide) (abo ?_)
    rw [e] at h
    exact h
  · rw [e] at h
    exact h
abbrev ajL:List Str:=["value","least","most"]
theorem aiO:FnScope ajL ["value","least","most"] (defScope acs):=⟨rfl,rfl,rfl,by decide +kernel,rfl,by decide +kernel,by decide +kernel⟩
theorem ai3 (T:Tx P K mg base a d):FnG P w K mg base 2 (a ab6) (d ab6) ["value","least","most"] (sp3 fun x lo hi Q _=>kindD x=true/\∃ l m:Int,lo=.int l/\hi=.int m/\Q (.d (.bl (numD l m x)))):=by
  have G_is_whole:FnG P w K mg base 1 (a aaZ) (d aaZ) ["value"] (sp1 fun x Q _=>kindD x=true/\Q (.d (.bl (wholeD x)))):=adQ T
  refine aqj T.F_is_number aiO (fun cdv A outer s H E hr hg=>(aaj (aan (afn (aag G_is_whole (hr.mono (by decide)) hg (tkOf rfl rfl rfl rfl) (adc T) (by rfl) T.m_is_whole T.F_is_whole.kp (aaa (aac (pv 0)) aab)) (afl (anz op_le (aa6 fun _ _ _=>.bl _) op_le (aa6 fun _ _ _=>.bl _) (aae (pv 1)) (aae (pv 0)) (aae (pv 2)))))))) (fun x lo hi Q E h=>?_)
  replace h:kindD x=true/\∃ l m:Int,lo=.int l/\hi=.int m/\Q (.d (.bl (numD l m x))):=h
  obtain ⟨k,l,m,rfl,rfl,h⟩:=h
  refine ⟨rfl,rfl,_,rfl,k,?_⟩
  cases x with
  | int i=>
    refine brT ?_
    refine acS ?_
    have e:numD l m (.int i)=(decide (l<=i) && decide (i<=m)):=rfl
    rw [e] at h
    refine br (fun h1=>?_) (fun h1=>?_)
    · refine acS ?_
      rw [h1,Bool.true_and] at h
      exact h
    · rw [h1,Bool.false_and] at h
      exact h
  | ins _ _=>cases k
  | dk _=>cases k
  | dt _=>cases k
  | any=>cases k
  | raw _=>cases k
  | _=>exact brF h
abbrev akX:List Str:=["value"]
theorem ajC:FnScope akX ["value"] (defScope acX):=⟨rfl,rfl,rfl,by decide +kernel,rfl,by decide +kernel,by decide +kernel⟩
theorem agD (T:Tx P K mg base a d):FnG P w K mg base 2 (a abS) (d abS) ["value"] (sp1 fun x Q _=>kindD x=true/\pairK x/\Q (.d (.bl (ratioD x)))):=by
  have G_is_whole:FnG P w K mg base 1 (a aaZ) (d aaZ) ["value"] (sp1 fun x Q _=>kindD x=true/\Q (.d (.bl (wholeD x)))):=adQ T
  refine acD T.F_is_ratio ajC (fun cdv A outer s H E hr hg=>(aak (adt (DW.dt (ahm (adg (ada (aah call_isi afu (by rfl) T.n_isinstance (by decide +kernel) (aaa (aae (pv 0)) (aaa (ahn (T:="tuple") (by rfl) T.n_tuple (by decide +kernel)) aab))))) (ahm (abA (aeC hr.units) ahB (aah call_len aa0 (by rfl) T.n_len PySem.boot_len (aaa (aae (pv 0)) aab)) aaf (nomark _)) (ahm (adg (ada (aag G_is_whole (hr.mono (by decide)) hg (tkOf rfl rfl rfl rfl) (adc T) (by rfl) T.m_is_whole T.F_is_whole.kp (aaa (aat ix_seq aai (aae (pv 0)) aaf (fun _ _=>rfl)) aab)))) (agR (adg (ada (aag G_is_whole (hr.mono (by decide)) hg (tkOf rfl rfl rfl rfl) (adc T) (by rfl) T.m_is_whole T.F_is_whole.kp (aaa (aat ix_seq aai (aae (pv 0)) aaf (fun _ _=>rfl)) aab))))))))) (aaj (aan aev)) ack)
      (aaj (aan (afn (acn op_ge (aa6 fun _ _ _=>.bl _) (aat ix_seq aai (aae (pv 0)) aaf (fun _ _=>rfl)) aaf (nomark _)) (afl (acn (abP hr.units) adn (akF cr_gcd alp (by rfl) T.b_gcd (aaa (aat ix_seq aai (aae (pv 0)) aaf (fun _ _=>rfl)) (aaa (aat ix_seq aai (aae (pv 0)) aaf (fun _ _=>rfl)) aab))) aaf (nomark _)))))))) (fun x Q E h=>?_)
  replace h:kindD x=true/\pairK x/\Q (.d (.bl (ratioD x))):=h
  obtain ⟨k,k2,h⟩:=h
  refine ak1 rfl k (by decide) ?_
  cases x with
  | tup ds=>
    refine abo (brF ?_)
    refine anV ?_
    refine aff ?_
    match ds,k2,h with
    | [],_,h=>exact brT (brT h)
    | [x],_,h=>
      rw [ae7 (by simp)] at h
      exact brT (brT h)
    | _::_::_::r,_,h=>
      rw [ae7 (by simp)] at h
      show Br (!decide (((r.length + 1 + 1 + 1:Nat):Int)=2)) _ _
      rw [decide_eq_false (by omega)]
      exact brT (brT h)
    | [x,y],k2,h=>
      refine brF ?_
      refine abb rfl ?_
      refine ⟨rfl,rfl,x,rfl,k2.1,?_⟩
      refine abo ?_
      cases x with
      | int i=>
        refine brF ?_
        refine abb rfl ?_
        refine ⟨rfl,rfl,y,rfl,k2.2,?_⟩
        refine abo ?_
        cases y with
        | int j=>
          refine brF ?_
          refine abb rfl ?_
          refine acS ?_
          have e:ratioD (.tup [.int i,.int j])=(decide (1<=j) && decide (gcI i j=1)):=rfl
          rw [e] at h
          refine br (fun h1=>?_) (fun h1=>?_)
          · refine abb rfl ?_
            refine abb rfl ?_
            refine ap5 ?_
            refine aff ?_
            rw [h1,Bool.true_and] at h
            exact h
          · rw [h1,Bool.false_and] at h
            exact h
        | ins _ _=>cases k2.2
        | dk _=>cases k2.2
        | dt _=>cases k2.2
        | any=>cases k2.2
        | raw _=>cases k2.2
        | _=>exact brT h
      | ins _ _=>cases k2.1
      | dk _=>cases k2.1
      | dt _=>cases k2.1
      | any=>cases k2.1
      | raw _=>cases k2.1
      | _=>exact brT (brT h)
  | ins _ _=>cases k
  | dk _=>cases k
  | dt _=>cases k
  | any=>cases k
  | raw _=>cases k
  | kt _=>exact k2.elim
  | _=>exact abo (brT (brT h))
abbrev ajK:List Str:=["value"]
theorem aiN:FnScope ajK ["value"] (defScope acr):=⟨rfl,rfl,rfl,by decide +kernel,rfl,by decide +kernel,by decide +kernel⟩
theorem ai1 (T:Tx P K mg base a d):FnG P w K mg base 3 (a ab4) (d ab4) ["value"] (sp1 fun x Q _=>kindD x=true/\pairK x/\Q (.d (.bl (wholeD x || ratioD x)))):=by
  have G_is_ratio:FnG P w K mg base 2 (a abS) (d abS) ["value"] (sp1 fun x Q _=>kindD x=true/\pairK x/\Q (.d (.bl (ratioD x)))):=agD T
  have G_is_whole:FnG P w K mg base 1 (a aaZ) (d aaZ) ["value"] (sp1 fun x Q _=>kindD x=true/\Q (.d (.bl (wholeD x)))):=adQ T
  refine acD T.F_is_valued aiN (fun cdv A outer s H E hr hg=>(aaj (aan (de_or (aag G_is_whole (hr.mono (by decide)) hg (tkOf rfl rfl rfl rfl) (adc T) (by rfl) T.m_is_whole T.F_is_whole.kp (aaa (aac (pv 0)) aab)) (afl (aag G_is_ratio (hr.mono (by decide)) hg (tkOf rfl rfl rfl rfl) (afS T) (by rfl) T.m_is_ratio T.F_is_ratio.kp (aaa (aac (pv 0)) aab))))))) (fun x Q E h=>?_)
  replace h:kindD x=true/\pairK x/\Q (.d (.bl (wholeD x || ratioD x))):=h
  obtain ⟨k,k2,h⟩:=h
  refine ⟨rfl,rfl,x,rfl,k,?_⟩
  cases e:wholeD x with
  | true=>rw [e,Bool.true_or] at h;exact brT h
  | false=>
    rw [e,Bool.false_or] at h
    exact brF ⟨rfl,rfl,x,rfl,k,k2,h⟩
abbrev anf:List Str:=["top","bottom","by"]
theorem aiM:FnScope anf ["top","bottom"] (defScope adO):=⟨rfl,rfl,rfl,by decide +kernel,rfl,by decide +kernel,by decide +kernel⟩
theorem alG (T:Tx P K mg base a d):FnG P w K mg base 1 (a ady) (d ady) ["top","bottom"] (sp2 fun x y Q _=>∃ n m:Int,x=.int n/\y=.int m/\0 < m/\m.natAbs < 2 ^ 8000/\Q (.d (rD (Rat.divInt n m)))):=by
  refine aem T.F_lowest aiM (fun cdv A outer s H E hr hg=>(aak (abV (i:=2) aiM.nd rfl (Or.inl rfl) (akF cr_gcd alp (by rfl) T.b_gcd (aaa (aae (pv 0)) (aaa (aae (pv 1)) aab))))
      (aaj (aan (acT (aaa (aip (aac (pv 0)) (aac (pv 2))) (aaa (aip (aac (pv 1)) (aac (pv 2))) aab))))))) (fun x y Q E h=>?_)
  replace h:∃ n m:Int,x=.int n/\y=.int m/\0 < m/\m.natAbs < 2 ^ 8000/\Q (.d (rD (Rat.divInt n m))):=h
  obtain ⟨n,m,rfl,rfl,h1,h2,h⟩:=h
  refine ags (.int (gcI n m)) (fun Q hQ=>ap5 hQ) ?_
  refine ahI (ail h1 h2) ?_
  refine ahI (ail (n:=n) h1 h2) ?_
  rw [alA h1] at h
  exact aeG rfl rfl h
abbrev pRof (K:PySem.W.Frag) (x:D) (Q:DV->Prop) (E:XE'):Prop:=kindD x=true/\pairK x/\(∀ q,ratOf x=some q->Q (.d (rD q)))/\(ratOf x=none->E (.ref (He.ga K "InvalidRatio")) (adj x))
abbrev akV:List Str:=["value"]
theorem ajA:FnScope akV ["value"] (defScope acV):=⟨rfl,rfl,rfl,by decide +kernel,rfl,by decide +kernel,by decide +kernel⟩
theorem agC (T:Tx P K mg base a d):FnG P w K mg base 3 (a abR) (d abR) ["value"] (sp1 fun x Q E=>pRof K x Q E):=by
  have G_is_ratio:FnG P w K mg base 2 (a abS) (d abS) ["value"] (sp1 fun x Q _=>kindD x=true/\pairK x/\Q (.d (.bl (ratioD x)))):=agD T
  have G_is_whole:FnG P w K mg base 1 (a aaZ) (d aaZ) ["value"] (sp1 fun x Q _=>kindD x=true/\Q (.d (.bl (wholeD x)))):=adQ T
  refine acD T.F_ratio_of ajA (fun cdv A outer s H E hr hg=>(aak (adt (ada (aag G_is_whole (hr.mono (by decide)) hg (tkOf rfl rfl rfl rfl) (adc T) (by rfl) T.m_is_whole T.F_is_whole.kp (aaa (aac (pv 0)) aab))) (aaj (aan (acT (aaa (aac (pv 0)) (aaa aaf aab))))) ack)
      (aak (adt (adg (ada (aag G_is_ratio (hr.mono (by decide)) hg (tkOf rfl rfl rfl rfl) (afS T) (by rfl) T.m_is_ratio T.F_is_ratio.kp (aaa (aac (pv 0)) aab)))) (aaj (adz rfl (tkOf rfl rfl rfl rfl) T.x_InvalidRatio (hr.mono (by decide)) (by rfl) T.m_InvalidRatio (aaa (aac (pv 0)) aab))) ack)
      (aaj (aan (aac (pv 0))))))) (fun x Q E h=>?_)
  replace h:pRof K x Q E:=h
  obtain ⟨k,k2,h1,h2⟩:=h
  refine ⟨rfl,rfl,x,rfl,k,?_⟩
  refine abo ?_
  cases e:ratOf x with
  | some q=>
    rcases ratOf_some e with ⟨i,rfl,z⟩ | ⟨z1,z2,z3⟩
    · refine brT (aeG rfl rfl ?_)
      have:=h1 q e
      rw [z] at this
      exact this
    · rw [z1]
      refine brF ⟨rfl,rfl,x,rfl,k,k2,abo ?_⟩
      rw [z2]
      refine brF ?_
      have:=h1 q e
      rw [<- z3] at this
      exact this
  | none=>
    obtain ⟨z1,z2⟩:=akQ k2 e
    rw [z1]
    refine brF ⟨rfl,rfl,x,rfl,k,k2,abo ?_⟩
    rw [z2]
    exact brT ⟨rfl,agg (h2 e)⟩
abbrev apT:List Str:=["one","other"]
theorem aoo:FnScope apT ["one","other"] (defScope agx):=⟨rfl,rfl,rfl,by decide +kernel,rfl,by decide +kernel,by decide +kernel⟩
theorem aoE (T:Tx P K mg base a d):FnG P w K mg base 2 (a afR) (d afR) ["one","other"] (sp2 fun x y Q _=>∃ p q:Rat,x=rD p/\y=rD q/\Nb 3900 p/\Nb 3900 q/\Q (.d (rD (p + q)))):=by
  have G_lowest:FnG P w K mg base 1 (a ady) (d ady) ["top","bottom"] (sp2 fun x y Q _=>∃ n m:Int,x=.int n/\y=.int m/\0 < m/\m.natAbs < 2 ^ 8000/\Q (.d (rD (Rat.divInt n m)))):=alG T
  refine aem T.F_plus aoo (fun cdv A outer s H E hr hg=>(aak (adt (abA (abP hr.units) adn (aat ix_seq aai (aae (pv 0)) aaf (fun _ _=>rfl)) (aat ix_seq aai (aae (pv 1)) aaf (fun _ _=>rfl)) (nomark _)) (aaj (aan (afm (abA (abP hr.units) adn (aat ix_seq aai (aae (pv 0)) aaf (fun _ _=>rfl)) aaf (nomark _)) (acT (aaa (adb (aat ix_seq aai (aae (pv 0)) aaf (fun _ _=>rfl)) (aat ix_seq aai (aae (pv 1)) aaf (fun _ _=>rfl))) (aaa aaf aab))) (aag G_lowest (hr.mono (by decide)) hg (tkOf rfl rfl rfl rfl) (ahM T) (by rfl) T.m_lowest T.F_lowest.kp (aaa (adb (aat ix_seq aai (aae (pv 0)) aaf (fun _ _=>rfl)) (aat ix_seq aai (aae (pv 1)) aaf (fun _ _=>rfl))) (aaa (aat ix_seq aai (aae (pv 0)) aaf (fun _ _=>rfl)) aab)))))) ack)
      (aaj (aan (aag G_lowest (hr.mono (by decide)) hg (tkOf rfl rfl rfl rfl) (ahM T) (by rfl) T.m_lowest T.F_lowest.kp (aaa (adb (aes (aat ix_seq aai (aae (pv 0)) aaf (fun _ _=>rfl)) (aat ix_seq aai (aae (pv 1)) aaf (fun _ _=>rfl))) (aes (aat ix_seq aai (aae (pv 1)) aaf (fun _ _=>rfl)) (aat ix_seq aai (aae (pv 0)) aaf (fun _ _=>rfl)))) (aaa (aes (aat ix_seq aai (aae (pv 0)) aaf (fun _ _=>rfl)) (aat ix_seq aai (aae (pv 1)) aaf (fun _ _=>rfl))) aab))))))) (fun x y Q E h=>?_)
  replace h:∃ p q:Rat,x=rD p/\y=rD q/\Nb 3900 p/\Nb 3900 q/\Q (.d (rD (p + q))):=h
  obtain ⟨p,q,rfl,rfl,hp,hq,h⟩:=h
  refine abb rfl (abb rfl (aff ?_))
  refine br (fun h1=>?_) (fun h1=>?_)
  · have e:(p.den:Int)=q.den:=of_decide_eq_true h1
    refine abb rfl (aff ?_)
    refine br (fun h2=>?_) (fun h2=>?_)
    · have e2:(p.den:Int)=1:=of_decide_eq_true h2
      refine abb rfl (abb rfl (afg (aeG rfl rfl ?_)))
      have e3:rD (p + q)=rt (p.num + q.num) 1:=by
        rw [akg e,e2,apK (by decide) (by unfold gcI;simp)]
      rw [e3] at h
      exact h
    · refine abb rfl (abb rfl (afg (abb rfl ?_)))
      refine ⟨rfl,rfl,_,_,rfl,_,_,rfl,rfl,den_pos p,?_,?_⟩
      · exact Nat.lt_of_lt_of_le (nbd hp) (Nat.pow_le_pow_right (by decide) (by decide))
      · rw [<- akg e];exact h
  · refine abb rfl (abb rfl (aeO (mulW hp.n (nbd hq) (by decide)) ?_))
    refine abb rfl (abb rfl (aeO (mulW hq.n (nbd hp) (by decide)) (afg ?_)))
    refine abb rfl (abb rfl (aeO (mulW (nbd hp) (nbd hq) (by decide)) ?_))
    refine ⟨rfl,rfl,_,_,rfl,_,_,rfl,rfl,Int.mul_pos (den_pos p) (den_pos q),akE hp hq,?_⟩
    rw [ahZ];exact h
abbrev aoI:List Str:=["one","other"]
theorem am0:FnScope aoI ["one","other"] (defScope aeT):=⟨rfl,rfl,rfl,by decide +kernel,rfl,by decide +kernel,by decide +kernel⟩
theorem am9 (T:Tx P K mg base a d):FnG P w K mg base 1 (a aek) (d aek) ["one","other"] (sp2 fun x y Q _=>∃ p q:Rat,x=rD p/\y=rD q/\Nb 3900 p/\Nb 3900 q/\Q (.d (.bl (decide (p < q))))):=by
  refine aem T.F_below am0 (fun cdv A outer s H E hr hg=>(aaj (aan (acn op_lt (aa6 fun _ _ _=>.bl _) (aes (aat ix_seq aai (aae (pv 0)) aaf (fun _ _=>rfl)) (aat ix_seq aai (aae (pv 1)) aaf (fun _ _=>rfl))) (aes (aat ix_seq aai (aae (pv 1)) aaf (fun _ _=>rfl)) (aat ix_seq aai (aae (pv 0)) aaf (fun _ _=>rfl))) (nomark _))))) (fun x y Q E h=>?_)
  replace h:∃ p q:Rat,x=rD p/\y=rD q/\Nb 3900 p/\Nb 3900 q/\Q (.d (.bl (decide (p < q)))):=h
  obtain ⟨p,q,rfl,rfl,hp,hq,h⟩:=h
  refine abb rfl (abb rfl (aeO (mulW hp.n (nbd hq) (by decide)) ?_))
  refine abb rfl (abb rfl (aeO (mulW hq.n (nbd hp) (by decide)) ?_))
  refine acS ?_
  rw [anN];exact h
abbrev ajd:List Str:=["value","sign"]
theorem afv:FnScope ajd ["value"] (defScope ac7):=⟨rfl,rfl,rfl,by decide +kernel,rfl,by decide +kernel,by decide +kernel⟩
theorem akU (T:Tx P K mg base a d):FnG P w K mg base 1 (a ac9) (d ac9) ["value"] (sp1 fun x Q _=>kindD x=true/\(∀ z,x=.str z->z.length<=szl)/\Q (.d (.bl (nameB x)))):=by
  refine acD T.F_is_name afv (fun cdv A outer s H E hr hg=>(aak (adt (DW.dt (ahm (adg (ada (aah call_isi afu (by rfl) T.n_isinstance (by decide +kernel) (aaa (aae (pv 0)) (aaa (ahn (T:="str") (by rfl) T.n_str (by decide +kernel)) aab))))) (agR (adg (akD op_le (aa6 fun _ _ _=>.bl _) op_le (aa6 fun _ _ _=>.bl _) aaf (aah call_len aa0 (by rfl) T.n_len PySem.boot_len (aaa (aae (pv 0)) aab)) aaf))))) (aaj (aan aev)) ack)
      (aaj (aan (aah (cr_all rfl) alr (by rfl) T.n_all (by decide +kernel) (aaa (aet (own:=[("sign",1)]) rfl afv.nd (acE (aac (pv 0))) (blkOk_by (own:=[("sign",1)]) (N:=ajd) (sc:=(defScope ac7)) (by decide +kernel)) (fun _ _ _ _ _=>(aaw (i:=1) afv.nd rfl (Or.inl rfl))) (fun _ _ _ _ _=>aa5) (fun _ _ _ _ _=>(acn ah3 alo (aae (pv 1)) (aeD (by rfl) T.c_LETTERS) (by rfl)))) aab)))))) (fun x Q E h=>?_)
  replace h:kindD x=true/\(∀ z,x=.str z->z.length<=szl)/\Q (.d (.bl (nameB x))):=h
  obtain ⟨k,hz,h⟩:=h
  refine ak1 rfl k (by decide) ?_
  cases x with
  | str z=>
    have hz:=hz z rfl
    replace h:Q (.d (.bl (nameOk z))):=h
    refine abo (brF ?_)
    refine al0 hz ?_
    refine acS ?_
    refine br (fun h1=>?_) (fun h1=>?_)
    · refine acS ?_
      have h1':1<=z.length:=by have:=of_decide_eq_true h1;omega
      cases h2:decide ((z.length:Int)<=5) with
      | false=>
        have h2':=of_decide_eq_false h2
        refine brT ?_
        have:nameOk z=false:=by
          unfold nameOk
          rw [decide_eq_false (show ¬ z.length<=5 by omega)];simp
        rw [this] at h;exact h
      | true=>
        have h2':=of_decide_eq_true h2
        refine brF ?_
        refine aoS ?_
        refine adr lowD _ (by rw [aiJ];exact hz) (fun d hd M A m=>?_) ?_
        · obtain ⟨c,hc,rfl⟩:=aji hd
          refine brT ?_
          refine l_inC rfl ?_
          exact m
        · refine ap8 (bs:=(z.cps.toList.map low)) rfl ?_ ?_
          · rw [<- agW low];unfold DL.signs;rw [List.map_map];rfl
          · rw [List.all_map]
            have:nameOk z=z.cps.toList.all low:=by unfold nameOk;rw [decide_eq_true h1',decide_eq_true (show z.length<=5 by omega)];rfl
            rw [this] at h;exact h
    · refine brT ?_
      have h1':=of_decide_eq_false h1
      have:nameOk z=false:=by
        unfold nameOk
        rw [decide_eq_false (show ¬ 1<=z.length by omega)];rfl
      rw [this] at h;exact h
  | ins _ _=>cases k
  | dk _=>cases k
  | dt _=>cases k
  | any=>cases k
  | raw _=>cases k
  | _=>exact abo (brT (brT h))
abbrev layersD:List D:=[.str "foot",.str "cart"]
def layB (m:Nat):D->Bool
  | .str z=>inF (.str z) (layersD.take m)
  | _=>false
abbrev akY:List Str:=["value","layers"]
theorem ajD:FnScope akY ["value","layers"] (defScope acY):=⟨rfl,rfl,rfl,by decide +kernel,rfl,by decide +kernel,by decide +kernel⟩
theorem ajH (T:Tx P K mg base a d):FnG P w K mg base 1 (a acC) (d acC) ["value","layers"] (sp2 fun x y Q _=>kindD x=true/\∃ m:Nat,y=.int m/\m<=2/\Q (.d (.bl (layB m x)))):=by
  refine aem T.F_is_layer ajD (fun cdv A outer s H E hr hg=>(aaj (aan (afn (aah call_isi afu (by rfl) T.n_isinstance (by decide +kernel) (aaa (aae (pv 0)) (aaa (ahn (T:="str") (by rfl) T.n_str (by decide +kernel)) aab))) (afl (acn ah3 alo (aae (pv 0)) (ajo (aeD (by rfl) T.c_LAYERS) aeq (aep (aac (pv 1)))) (by rfl))))))) (fun x y Q E h=>?_)
  replace h:kindD x=true/\∃ m:Nat,y=.int m/\m<=2/\Q (.d (.bl (layB m x))):=h
  obtain ⟨k,m,rfl,hm,h⟩:=h
  refine ak1 rfl k (by decide) ?_
  cases x with
  | str z=>
    refine brT ?_
    refine l_slT ?_
    rw [anA (xs:=layersD) (k:=m) hm]
    refine l_inT rfl ?_ h
    match m,hm with
    | 0,_=>rfl
    | 1,_=>rfl
    | 2,_=>rfl
  | ins _ _=>cases k
  | dk _=>cases k
  | dt _=>cases k
  | any=>cases k
  | raw _=>cases k
  | _=>exact brF h
abbrev agJ:List Str:=["value","row"]
theorem aee:FnScope agJ ["value"] (defScope abZ):=⟨rfl,rfl,rfl,by decide +kernel,rfl,by decide +kernel,by decide +kernel⟩
theorem ai2 (T:Tx P K mg base a d):FnG P w K mg base 1 (a ab5) (d ab5) ["value"] (sp1 fun x Q _=>∃ (n:Nat) (e:Nat->Nat->D),x=tabX n e/\1<=n/\n<=9/\Q (.d (.bl true))):=by
  refine acD T.F_is_square aee (fun cdv A outer s H E hr hg=>(aak (adt (DW.dt (ahm (adg (ada (aah ajp akf (by rfl) T.n_isinstance (by decide +kernel) (aaa (aae (pv 0)) (aaa (acT (aaa (ahn (T:="list") (by rfl) T.n_list (by decide +kernel)) (aaa (ahn (T:="tuple") (by rfl) T.n_tuple (by decide +kernel)) aab))) aab))))) (agR (adg (akD op_le (aa6 fun _ _ _=>.bl _) op_le (aa6 fun _ _ _=>.bl _) aaf (aah call_len aa0 (by rfl) T.n_len PySem.boot_len (aaa (aae (pv 0)) aab)) (aeD (by rfl) T.c_MOST_PLACES)))))) (aaj (aan aev)) ack)
      (aaj (aan (aah (cr_all rfl) alr (by rfl) T.n_all (by decide +kernel) (aaa (aet (own:=[("row",1)]) rfl aee.nd (acE (aac (pv 0))) (blkOk_by (own:=[("row",1)]) (N:=agJ) (sc:=(defScope abZ)) (by decide +kernel)) (fun _ _ _ _ _=>(aaw (i:=1) aee.nd rfl (Or.inl rfl))) (fun _ _ _ _ _=>aa5) (fun _ _ _ _ _=>(afn (aah ajp akf (by rfl) T.n_isinstance (by decide +kernel) (aaa (aae (pv 1)) (aaa (acT (aaa (ahn (T:="list") (by rfl) T.n_list (by decide +kernel)) (aaa (ahn (T:="tuple") (by rfl) T.n_tuple (by decide +kernel)) aab))) aab))) (afl (acn (abP hr.units) adn (aah call_len aa0 (by rfl) T.n_len PySem.boot_len (aaa (aae (pv 1)) aab)) (aah call_len aa0 (by rfl) T.n_len PySem.boot_len (aaa (aae (pv 0)) aab)) (nomark _)))))) aab)))))) (fun x Q E h=>?_)
  replace h:∃ (n:Nat) (e:Nat->Nat->D),x=tabX n e/\1<=n/\n<=9/\Q (.d (.bl true)):=h
  obtain ⟨n,e,rfl,h1,h9,h⟩:=h
  have hz:szl=16777216:=rfl
  refine aeG rfl rfl ?_
  refine anX (Ts:=["list","tuple"]) (d:=tabX n e) rfl rfl rfl (by decide) ?_
  refine abo (brF ?_)
  refine aeb ?_
  refine acS ?_
  rw [decide_eq_true (show (1:Int)<=n by omega)]
  refine brT ?_
  refine acS ?_
  rw [decide_eq_true (show (n:Int)<=9 by omega)]
  refine brF ?_
  refine abx ?_
  refine adr (fun _=>.bl true) _ (by rw [List.length_map,List.length_range];omega) (fun d hd M A m=>?_) ?_
  · obtain ⟨i,_,rfl⟩:=List.mem_map.mp hd
    refine brT ?_
    refine aeG rfl rfl ?_
    refine anX (Ts:=["list","tuple"]) (d:=rowX n (e i)) rfl rfl rfl (by decide) ?_
    refine brT ?_
    refine acR (ds:=(List.range n).map (e i)) rfl ?_
    refine aeb ?_
    rw [List.length_map,List.length_range]
    refine aff ?_
    rw [decide_eq_true rfl]
    exact m
  · refine ap8 (bs:=((List.range n).map fun i=>rowX n (e i)).map fun _=>true) rfl (agW _ _) ?_
    have e0:((((List.range n).map fun i=>rowX n (e i)).map fun _=>true).all id)=true:=by
      rw [List.all_eq_true]
      intro b hb
      obtain ⟨_,_,rfl⟩:=List.mem_map.mp hb
      rfl
    rw [e0]
    exact h
structure TabOk (n:Nat) (e:Nat->Nat->D) (f:Nat->Nat->Rat):Prop where
  l1:1<=n
  l9:n<=9
  pl:∀ i j,i < n->j < n->Pl (e i j)
  rt:∀ i j,i < n->j < n->ratOf (e i j)=some (f i j)
  nb:∀ i j,i < n->j < n->Nb 1900 (f i j)
  gd:GoodF n f
theorem apw {d:D} {q:Rat} (h:ratOf d=some q):(wholeD d || ratioD d)=true:=by
  rcases ratOf_some h with ⟨i,rfl,_⟩ | ⟨_,z,_⟩
  · rfl
  · rw [z,Bool.or_true]
theorem aoF {q:Rat} (h:0<=q):decide (q.num < 0)=false:=decide_eq_false (by have:=Rat.num_nonneg.mpr h;omega)
abbrev adS:List Str:=["rows","size","start","goal","value","sums","by","one"]
theorem aaA:FnScope adS ["rows"] (defScope aa9):=⟨rfl,rfl,rfl,by decide +kernel,rfl,by decide +kernel,by decide +kernel⟩
theorem ahd (T:Tx P K mg base a d):FnG P w K mg base 5 (a abp) (d abp) ["rows"] (sp1 fun x Q _=>∃ (n:Nat) (e:Nat->Nat->D) (f:Nat->Nat->Rat),x=tabX n e/\TabOk n e f/\Q (.d .non)):=by
  have G_below:FnG P w K mg base 1 (a aek) (d aek) ["one","other"] (sp2 fun x y Q _=>∃ p q:Rat,x=rD p/\y=rD q/\Nb 3900 p/\Nb 3900 q/\Q (.d (.bl (decide (p < q))))):=am9 T
  have G_is_valued:FnG P w K mg base 3 (a ab4) (d ab4) ["value"] (sp1 fun x Q _=>kindD x=true/\pairK x/\Q (.d (.bl (wholeD x || ratioD x)))):=ai1 T
  have G_plus:FnG P w K mg base 2 (a afR) (d afR) ["one","other"] (sp2 fun x y Q _=>∃ p q:Rat,x=rD p/\y=rD q/\Nb 3900 p/\Nb 3900 q/\Q (.d (rD (p + q)))):=aoE T
  have G_ratio_of:FnG P w K mg base 3 (a abR) (d abR) ["value"] (sp1 fun x Q E=>pRof K x Q E):=agC T
  refine acD T.F_first_fault aaA (fun cdv A outer s H E hr hg=>(aak (abV (i:=1) aaA.nd rfl (Or.inl rfl) (aah call_len aa0 (by rfl) T.n_len PySem.boot_len (aaa (aae (pv 0)) aab)))
      (aak (aeo (passes_of rfl) rfl (acy (by rfl) T.n_range (aaa (aac (pv 1)) aab)) (aaw (i:=2) aaA.nd rfl (Or.inr rfl)) (aaj (aeo (passes_of rfl) rfl (acy (by rfl) T.n_range (aaa (aac (pv 1)) aab)) (aaw (i:=3) aaA.nd rfl (Or.inr rfl)) (aak (abV (i:=4) aaA.nd rfl (Or.inl rfl) (aat ix_seq aai (aat ix_seq aai (aae (pv 0)) (aac (pv 2)) (fun _ _=>rfl)) (aac (pv 3)) (fun _ _=>rfl)))
      (aaj (adt (DW.dt (ahm (adg (ada (aag G_is_valued (hr.mono (by decide)) hg (tkOf rfl rfl rfl rfl) (aiy T) (by rfl) T.m_is_valued T.F_is_valued.kp (aaa (aac (pv 4)) aab)))) (ahm (abA op_lt (aa6 fun _ _ _=>.bl _) (aat ix_seq aai (aag G_ratio_of (hr.mono (by decide)) hg (tkOf rfl rfl rfl rfl) (acF T) (by rfl) T.m_ratio_of T.F_ratio_of.kp (aaa (aac (pv 4)) aab)) aaf (fun _ _=>rfl)) aaf (nomark _)) (agR (DW.dt (amn (abA (abP hr.units) adn (aae (pv 2)) (aae (pv 3)) (nomark _)) (ajZ (abA (aeC hr.units) ahB (aag G_ratio_of (hr.mono (by decide)) hg (tkOf rfl rfl rfl rfl) (acF T) (by rfl) T.m_ratio_of T.F_ratio_of.kp (aaa (aac (pv 4)) aab)) (aeD (by rfl) T.c_ZERO) (nomark _))))))))) (aaj (aan (acT (aaa (aac (pv 2)) (aaa (aac (pv 3)) aab))))) ack))))))
      (aak (aeo (passes_of rfl) rfl (acy (by rfl) T.n_range (aaa (aac (pv 1)) aab)) (aaw (i:=2) aaA.nd rfl (Or.inr rfl)) (aaj (aeo (passes_of rfl) rfl (acy (by rfl) T.n_range (aaa (aac (pv 1)) aab)) (aaw (i:=3) aaA.nd rfl (Or.inr rfl)) (aak (af9 (i:=5) (own:=[("by",6)]) rfl aaA.nd rfl rfl (sw_true rfl rfl rfl (by decide +kernel)) (acy (by rfl) T.n_range (aaa (aac (pv 1)) aab)) (blkOk_by (own:=[("by",6)]) (N:=adS) (sc:=(defScope aa9)) (by decide +kernel)) (fun _ _ _ _ _=>(aaw (i:=6) aaA.nd rfl (Or.inl rfl))) (fun _ _ _ _ _=>aa5) (fun _ _ _ _ _=>(aag G_plus (hr.mono (by decide)) hg adl (anB T) (by rfl) T.m_plus T.F_plus.kp (aaa (aag G_ratio_of (hr.mono (by decide)) hg adl (acF T) (by rfl) T.m_ratio_of T.F_ratio_of.kp (aaa (aat ix_seq aai (aat ix_seq aai (aae (pv 0)) (aac (pv 2)) (fun _ _=>rfl)) (aac (pv 6)) (fun _ _=>rfl)) aab)) (aaa (aag G_ratio_of (hr.mono (by decide)) hg adl (acF T) (by rfl) T.m_ratio_of T.F_ratio_of.kp (aaa (aat ix_seq aai (aat ix_seq aai (aae (pv 0)) (aac (pv 6)) (fun _ _=>rfl)) (aac (pv 3)) (fun _ _=>rfl)) aab)) aab)))))
      (aaj (adt (ada (aah (cr_any rfl) aol (by rfl) T.n_any (by decide +kernel) (aaa (aet (own:=[("one",7)]) rfl aaA.nd (acE (aac (pv 5))) (blkOk_by (own:=[("one",7)]) (N:=adS) (sc:=(defScope aa9)) (by decide +kernel)) (fun _ _ _ _ _=>(aaw (i:=7) aaA.nd rfl (Or.inl rfl))) (fun _ _ _ _ _=>aa5) (fun _ _ _ _ _=>(aag G_below (hr.mono (by decide)) hg adl (amK T) (by rfl) T.m_below T.F_below.kp (aaa (aac (pv 7)) (aaa (aag G_ratio_of (hr.mono (by decide)) hg adl (acF T) (by rfl) T.m_ratio_of T.F_ratio_of.kp (aaa (aat ix_seq aai (aat ix_seq aai (aae (pv 0)) (aac (pv 2)) (fun _ _=>rfl)) (aac (pv 3)) (fun _ _=>rfl)) aab)) aab))))) aab))) (aaj (aan (acT (aaa (aac (pv 2)) (aaa (aac (pv 3)) aab))))) ack))))))
      (aaj (aan aer)))))) (fun x Q E h=>?_)
  replace h:∃ (n:Nat) (e:Nat->Nat->D) (f:Nat->Nat->Rat),x=tabX n e/\TabOk n e f/\Q (.d .non):=h
  obtain ⟨n,e,f,rfl,tk,h⟩:=h
  have hz:szl=16777216:=rfl
  have l9:=tk.l9
  have int0:∀ i:Nat,(0:Int) + (i:Int)=(i:Int):=fun i=>by omega
  have rof:∀ (i j:Nat) (hi:i < n) (hj:j < n) (QQ:DV->Prop) (EE:XE'),QQ (.d (rD (f i j)))->pRof K (e i j) QQ EE:=fun i j hi hj QQ EE q=>
    ⟨(tk.pl i j hi hj).kind,(tk.pl i j hi hj).pair,(fun q' z=>by rw [tk.rt i j hi hj] at z;cases z;exact q),(fun z=>by rw [tk.rt i j hi hj] at z;cases z)⟩
  refine ags (.int n) (fun Q hQ=>aeb hQ) ?_
  refine aaT (fun s=>∃ a2 a3 a4,s=[some (.d (tabX n e)),some (.d (.int n)),a2,a3,a4,none,none,none]) (fun N hN=>?_) (fun s hs=>?_)
  · refine ads (by omega) (by omega) ?_
    refine adW (fun s=>∃ a2 a3 a4,s=[some (.d (tabX n e)),some (.d (.int n)),a2,a3,a4,none,none,none]) _ _ ⟨_,_,_,rfl⟩ (fun N1 d s hN1 hd hs=>?_) hN
    obtain ⟨a2,a3,a4,rfl⟩:=hs
    obtain ⟨i,hi,rfl⟩:=adw hd
    rw [int0]
    have hi:i < n:=by omega
    refine ads (by omega) (by omega) ?_
    refine adW (fun s=>∃ a3 a4,s=[some (.d (tabX n e)),some (.d (.int n)),some (.d (.int (i:Int))),a3,a4,none,none,none]) _ _ ⟨_,_,rfl⟩ (fun N2 d s hN2 hd hs=>?_) (fun s ⟨a3,a4,hs⟩=>hN1 s ⟨_,a3,a4,hs⟩)
    obtain ⟨a3,a4,rfl⟩:=hs
    obtain ⟨j,hj,rfl⟩:=adw hd
    rw [int0]
    have hj:j < n:=by omega
    refine ags (e i j) (fun Q hQ=>ajS hi (ajT hj hQ)) ?_
    refine ⟨rfl,rfl,_,rfl,(tk.pl i j hi hj).kind,(tk.pl i j hi hj).pair,?_⟩
    rw [apw (tk.rt i j hi hj)]
    refine abo (brF ?_)
    refine ⟨rfl,rfl,_,rfl,rof i j hi hj _ _ ?_⟩
    refine abb rfl (acS ?_)
    rw [aoF (tk.gd.pos i j hi hj)]
    refine brF ?_
    refine aff ?_
    refine br (fun z=>?_) (fun _=>brF (hN2 _ ⟨_,_,rfl⟩))
    have ij:i=j:=by have:=of_decide_eq_true z;omega
    subst ij
    refine ⟨rfl,rfl,_,rfl,rof i i hi hi _ _ ?_⟩
    rw [tk.gd.dia i hi]
    refine aoW (p:=0) (q:=0) ?_
    exact brF (hN2 _ ⟨_,_,rfl⟩)
  obtain ⟨a2,a3,a4,rfl⟩:=hs
  refine aaT (fun s=>∃ a2 a3 a4 a5,s=[some (.d (tabX n e)),some (.d (.int n)),a2,a3,a4,a5,none,none]) (fun N hN=>?_) (fun s hs=>?_)
  · refine ads (by omega) (by omega) ?_
    refine adW (fun s=>∃ a2 a3 a4 a5,s=[some (.d (tabX n e)),some (.d (.int n)),a2,a3,a4,a5,none,none]) _ _ ⟨_,_,_,_,rfl⟩ (fun N1 d s hN1 hd hs=>?_) hN
    obtain ⟨a2,a3,a4,a5,rfl⟩:=hs
    obtain ⟨i,hi,rfl⟩:=adw hd
    rw [int0]
    have hi:i < n:=by omega
    refine ads (by omega) (by omega) ?_
    refine adW (fun s=>∃ a3 a4 a5,s=[some (.d (tabX n e)),some (.d (.int n)),some (.d (.int (i:Int))),a3,a4,a5,none,none]) _ _ ⟨_,_,_,rfl⟩ (fun N2 d s hN2 hd hs=>?_) (fun s ⟨a3,a4,a5,hs⟩=>hN1 s ⟨_,a3,a4,a5,hs⟩)
    obtain ⟨a3,a4,a5,rfl⟩:=hs
    obtain ⟨j,hj,rfl⟩:=adw hd
    rw [int0]
    have hj:j < n:=by omega
    refine aeB ((List.range n).map fun k=>rD (f i k + f k j)) (fun Q hQ=>?_) ?_
    · refine ads (by omega) (by omega) ?_
      refine ajQ (fun k=>rD (f i k + f k j)) _ (by omega) (fun k hk M A m=>?_) hQ
      refine brT ?_
      refine ajS hi (ajT hk ?_)
      refine ⟨rfl,rfl,_,rfl,rof i k hi hk _ _ ?_⟩
      refine ajS hk (ajT hj ?_)
      refine ⟨rfl,rfl,_,rfl,rof k j hk hj _ _ ?_⟩
      exact ⟨rfl,rfl,_,_,rfl,_,_,rfl,rfl,(tk.nb i k hi hk).mono (by decide),(tk.nb k j hk hj).mono (by decide),m⟩
    refine abx ?_
    refine adr (fun _=>.bl false) _ (by rw [List.length_map,List.length_range];omega) (fun d hd M A m=>?_) ?_
    · obtain ⟨k,hk,rfl⟩:=List.mem_map.mp hd
      have hk:=List.mem_range.mp hk
      refine brT ?_
      refine ajS hi (ajT hj ?_)
      refine ⟨rfl,rfl,_,rfl,rof i j hi hj _ _ ?_⟩
      refine ⟨rfl,rfl,_,_,rfl,_,_,rfl,rfl,(alI (tk.nb i k hi hk) (tk.nb k j hk hj)).mono (by decide),(tk.nb i j hi hj).mono (by decide),?_⟩
      have t:=tk.gd.tri i j k hi hj hk
      rw [decide_eq_false (by grind)]
      exact m
    · refine l_any (bs:=((List.range n).map fun k=>rD (f i k + f k j)).map fun _=>false) rfl (agW _ _) ?_
      have e0:(((List.range n).map fun k=>rD (f i k + f k j)).map fun _=>false).any id=false:=by
        rw [List.any_eq_false]
        intro b hb
        obtain ⟨_,_,rfl⟩:=List.mem_map.mp hb
        simp
      rw [e0]
      exact abo (brF (hN2 _ ⟨_,_,_,rfl⟩))
  obtain ⟨a2,a3,a4,a5,rfl⟩:=hs
  exact h
end
section
variable {P:Program} {w:World} {K:PySem.W.Frag} {mg:Str->Option Value} {base:Heap} {a:Nat->Addr} {d:Nat->FuncData}
abbrev adq:List Str:=["layer","rows","size","fault","row","value"]
theorem abj:FnScope adq ["layer","rows","size"] (defScope aaU):=⟨rfl,rfl,rfl,by decide +kernel,rfl,by decide +kernel,by decide +kernel⟩
theorem afW (T:Tx P K mg base a d):FnR P w K mg base 6 (a aaV) (d aaV) ["layer","rows","size"] (upSN K (fun args Q E=>∃ ly:D,∃ x:D,∃ sz:D,args=[.d ly,.d x,.d sz]/\(∃ (n:Nat) (e:Nat->Nat->D) (f:Nat->Nat->Rat),x=tabX n e/\TabOk n e f/\(sz=.non\/sz=.int n)/\∀ t:FT,t.d=.lst ((List.range n).map fun i=>rowX n fun j=>rD (f i j))->t.sol=true->Q t))):=by
  have G_first_fault:FnG P w K mg base 5 (a abp) (d abp) ["rows"] (sp1 fun x Q _=>∃ (n:Nat) (e:Nat->Nat->D) (f:Nat->Nat->Rat),x=tabX n e/\TabOk n e f/\Q (.d .non)):=ahd T
  have G_is_square:FnG P w K mg base 1 (a ab5) (d ab5) ["value"] (sp1 fun x Q _=>∃ (n:Nat) (e:Nat->Nat->D),x=tabX n e/\1<=n/\n<=9/\Q (.d (.bl true))):=ai2 T
  have G_ratio_of:FnG P w K mg base 3 (a abR) (d abR) ["value"] (sp1 fun x Q E=>pRof K x Q E):=agC T
  refine an3 T.F_checked_table abj (by rintro _ Q E ⟨ly,x,sz,rfl,h⟩;rfl) (fun args Q E h=>aia (by obtain ⟨ly,x,sz,rfl,h⟩:=h;intro x hx;simp only [List.mem_cons,List.not_mem_nil,or_false] at hx;rcases hx with rfl | rfl | rfl<;>first | assumption | exact fun _ z=>by cases z)) (fun cdv A outer s H E hr hg=>(aco (aim (adt (DW.dt (ahm (adg (ada (aag G_is_square (hr.mono (by decide)) hg (tkOf rfl rfl rfl rfl) (aiz T) (by rfl) T.m_is_square T.F_is_square.kp (aaa (aac (pv 1)) aab)))) (agR (DW.dt (amn (abA op_notN ahT (aae (pv 2)) aer (nomark _)) (ajZ (abA (aeC hr.units) ahB (aah call_len aa0 (by rfl) T.n_len PySem.boot_len (aaa (aae (pv 1)) aab)) (aae (pv 2)) (nomark _)))))))) (aaj (adz rfl (tkOf rfl rfl rfl rfl) T.x_InvalidTable (hr.mono (by decide)) (by rfl) T.m_InvalidTable (aaa (aac (pv 0)) aab))) ack))
      (aco (aim (abV (i:=3) abj.nd rfl (Or.inl rfl) (aag G_first_fault (hr.mono (by decide)) hg (tkOf rfl rfl rfl rfl) (agX T) (by rfl) T.m_first_fault T.F_first_fault.kp (aaa (aac (pv 1)) aab))))
      (aco (aim (adt (abA op_notN ahT (aae (pv 3)) aer (nomark _)) (aaj (adz rfl (tkOf rfl rfl rfl rfl) T.x_InvalidWay (hr.mono (by decide)) (by rfl) T.m_InvalidWay (aaa (aac (pv 0)) (aaa (aat ix_seq aai (aae (pv 3)) aaf (fun _ _=>rfl)) (aaa (aat ix_seq aai (aae (pv 3)) aaf (fun _ _=>rfl)) aab))))) ack))
      (afG (an1 (ahl (apk (own:=[("row",4)]) rfl abj.nd (acE (aac (pv 1))) (blkOk_by (own:=[("row",4)]) (N:=adq) (sc:=(defScope aaU)) (by decide +kernel)) (fun _ _ _ _ _=>(aaw (i:=4) abj.nd rfl (Or.inl rfl))) (fun _ _ _ _ _=>aa5) (fun _ _ _ _ _=>(amr (aet (own:=[("value",5)]) rfl abj.nd (acE (aac (pv 4))) (blkOk_by (own:=[("value",5)]) (N:=adq) (sc:=_) (by kernel_rfl)) (fun _ _ _ _ _=>(aaw (i:=5) abj.nd rfl (Or.inl rfl))) (fun _ _ _ _ _=>aa5) (fun _ _ _ _ _=>(aag G_ratio_of (hr.mono (by decide)) hg adl (acF T) (by rfl) T.m_ratio_of T.F_ratio_of.kp (aaa (aac (pv 5)) aab)))))))))))))) (fun args Q E h=>?_)
  obtain ⟨ly,x,sz,rfl,h⟩:=h
  obtain ⟨n,e,f,rfl,tk,hs,h⟩:=h
  have hz:szl=16777216:=rfl
  have l9:=tk.l9
  refine acp (fun s fl=>s=[some (.d ly),some (.d (tabX n e)),some (.d sz),none,none,none]/\fl=[]) (fun N hN=>?_) (fun s fl hs=>?_)
  · refine ⟨rfl,rfl,_,rfl,n,e,rfl,tk.l1,tk.l9,?_⟩
    refine abo (brF ?_)
    rcases hs with rfl | rfl
    · refine al4 rfl rfl ?_
      exact brF (brF (hN _ _ ⟨rfl,rfl⟩))
    · refine al4 rfl rfl ?_
      refine brT ?_
      refine aeb ?_
      refine aff ?_
      rw [decide_eq_true rfl]
      exact brF (hN _ _ ⟨rfl,rfl⟩)
  obtain ⟨rfl,rfl⟩:=hs
  refine acp (fun s fl=>s=[some (.d ly),some (.d (tabX n e)),some (.d sz),some (.d .non),none,none]/\fl=[]) (fun N hN=>⟨rfl,rfl,_,rfl,n,e,f,rfl,tk,hN _ _ ⟨rfl,rfl⟩⟩) (fun s fl hs=>?_)
  obtain ⟨rfl,rfl⟩:=hs
  refine acp (fun s fl=>s=[some (.d ly),some (.d (tabX n e)),some (.d sz),some (.d .non),none,none]/\fl=[]) (fun N hN=>?_) (fun s fl hs=>?_)
  · refine al4 rfl rfl ?_
    exact brF (hN _ _ ⟨rfl,rfl⟩)
  obtain ⟨rfl,rfl⟩:=hs
  refine abx ?_
  refine alS (fun i=>rowX n (e i)) (fun i=>rowX n fun j=>rD (f i j)) [some (.d ly),some (.d (tabX n e)),some (.d sz),some (.d .non),none,none] (by omega) (fun i hi M A m=>?_) (fun ts e1 e2 C=>h _ ?_ ?_)
  · refine brT ?_
    refine abx ?_
    refine adr rOfD _ (by rw [List.length_map,List.length_range];omega) (fun d hd M' A' m'=>?_) ?_
    · obtain ⟨j,hj,rfl⟩:=List.mem_map.mp hd
      have hj:=List.mem_range.mp hj
      refine brT ?_
      refine ⟨rfl,rfl,_,rfl,(tk.pl i j hi hj).kind,(tk.pl i j hi hj).pair,(fun q z=>?_),(fun z=>by rw [tk.rt i j hi hj] at z;cases z)⟩
      have e1:rOfD (e i j)=rD q:=by unfold rOfD;rw [z]
      rw [e1] at m'
      exact m'
    · have e1:(((List.range n).map (e i)).map rOfD)=(List.range n).map fun j=>rD (f i j):=by
        rw [List.map_map]
        refine List.map_congr_left fun j hj=>?_
        show rOfD (e i j)=rD (f i j)
        unfold rOfD;rw [tk.rt i j hi (List.mem_range.mp hj)]
      refine ⟨_,rfl,fun a=>m _ ?_ ?_⟩
      · rw [ait,e1];rfl
      · refine aft ?_
        rw [e1,aen]
        intro x hx
        obtain ⟨j,_,rfl⟩:=List.mem_map.mp hx
        rfl
  · rw [amz,e1]
  · rw [ahP];exact e2
structure NmOk (n:Nat) (ks:List Str) (pl:Str->Nat):Prop where
  nd:ks.Nodup
  l5:ks.length<=5
  nm:∀ z∈ks,nameOk z=true
  lt:∀ z∈ks,pl z < n
  inj:∀ z∈ks,∀ y∈ks,pl z=pl y->z=y
theorem af5 {z:Str} (h:nameOk z=true):z.length<=5:=by
  unfold nameOk at h
  simp only [Bool.and_eq_true,decide_eq_true_eq] at h
  exact h.1.2
abbrev NmDo (K:PySem.W.Frag) (n:Nat) (ks:List Str) (val:Str->D) (Q:List Str->Prop) (E:XE'):Prop:=ks.Nodup/\ks.length<=60/\(∀ z∈ks,kindD (val z)=true/\z.length<=szl)/\∀ ys:List Str,ys.Perm ks->sortedS ys=true->(∀ z,ys.find? (fun z=>!nameOk z)=some z->E (.ref (He.ga K "InvalidName")) (adA (.str z)))/\(ys.find? (fun z=>!nameOk z)=none->(5 < ks.length->E (.ref (He.ga K "TooMany")) (afs (.str "names") (.int 5)))/\(ks.length<=5->(∀ d,plF val n [] ys=some d->E (.ref (He.ga K "InvalidPlace")) (adk d))/\(plF val n [] ys=none->Q ys)))
theorem adf {K:PySem.W.Frag} {n:Nat} {ks:List Str} {pl:Str->Nat} {Q:List Str->Prop} {E:XE'} (ok:NmOk n ks pl) (h:∀ ys:List Str,ys.Perm ks->sortedS ys=true->Q ys):NmDo K n ks (fun z=>.int (pl z)) Q E:=by
  have hz:szl=16777216:=rfl
  have l5:=ok.l5
  refine ⟨ok.nd,by omega,fun z hz=>⟨rfl,by have:=af5 (ok.nm z hz);omega⟩,fun ys hp hs=>⟨fun z hf=>?_,fun _=>⟨fun c=>absurd c (by omega),fun _=>⟨fun d hd=>?_,fun _=>h ys hp hs⟩⟩⟩⟩
  · have h1:=List.find?_some hf
    rw [ok.nm z (hp.mem_iff.mp (List.mem_of_find?_eq_some hf))] at h1
    cases h1
  · have e:plF (fun z=>.int (pl z)) n [] ys=none:=akl ys [] (hp.nodup_iff.mpr ok.nd) (fun z hz=>ok.lt z (hp.mem_iff.mp hz)) (fun z hz y hy=>ok.inj z (hp.mem_iff.mp hz) y (hp.mem_iff.mp hy))
    rw [e] at hd;cases hd
abbrev ad2:List Str:=["names","size","name","found","other"]
theorem abg:FnScope ad2 ["names","size"] (defScope aaM):=⟨rfl,rfl,rfl,by decide +kernel,rfl,by decide +kernel,by decide +kernel⟩
theorem afA (T:Tx P K mg base a d):FnG P w K mg base 4 (a aaN) (d aaN) ["names","size"] (fun args Q E=>∃ x:DV,∃ y:D,args=[x,.d y]/\NoSee x/\(∃ (n:Nat) (ks:List Str) (val:Str->D),(x=.d (.dk (kvD ks val))\/x=.bor (.dk (kvD ks val)))/\y=.int n/\NmDo K n ks val (fun ys=>Q (.d (.dk (kvD ys val)))) E)):=by
  have G_is_name:FnG P w K mg base 1 (a ac9) (d ac9) ["value"] (sp1 fun x Q _=>kindD x=true/\(∀ z,x=.str z->z.length<=szl)/\Q (.d (.bl (nameB x)))):=akU T
  have G_is_number:FnG P w K mg base 2 (a ab6) (d ab6) ["value","least","most"] (sp3 fun x lo hi Q _=>kindD x=true/\∃ l m:Int,lo=.int l/\hi=.int m/\Q (.d (.bl (numD l m x)))):=ai3 T
  refine ad3 T.F_checked_places abg (by rintro _ Q E ⟨x,y,rfl,hL_x,h⟩;rfl) (fun args Q E h=>aia (by obtain ⟨x,y,rfl,hL_x,h⟩:=h;intro x hx;simp only [List.mem_cons,List.not_mem_nil,or_false] at hx;rcases hx with rfl | rfl<;>first | assumption | exact fun _ z=>by cases z)) (fun cdv A outer s H E hr hg=>(aak (aeo (passes_of rfl) rfl (acE (aah (call_sortedD rfl) agt (by rfl) T.n_sorted (by decide +kernel) (aaa (aae (pv 0)) aab))) (aaw (i:=2) abg.nd rfl (Or.inl rfl)) (aaj (adt (adg (ada (aag G_is_name (hr.mono (by decide)) hg (tkOf rfl rfl rfl rfl) (aj2 T) (by rfl) T.m_is_name T.F_is_name.kp (aaa (aac (pv 2)) aab)))) (aaj (adz rfl (tkOf rfl rfl rfl rfl) T.x_InvalidName (hr.mono (by decide)) (by rfl) T.m_InvalidName (aaa (aac (pv 2)) aab))) ack)))
      (aak (adt (abA op_gt (aa6 fun _ _ _=>.bl _) (aah ak8 alm (by rfl) T.n_len PySem.boot_len (aaa (aae (pv 0)) aab)) (aeD (by rfl) T.c_MOST_NAMED) (nomark _)) (aaj (adz rfl (tkOf rfl rfl rfl rfl) T.x_TooMany (hr.mono (by decide)) (by rfl) T.m_TooMany (aaa aa7 (aaa (aeD (by rfl) T.c_MOST_NAMED) aab)))) ack)
      (aak (abV (i:=3) abg.nd rfl (Or.inr rfl) apq)
      (aak (aeo (passes_of rfl) rfl (acE (aah (call_sortedD rfl) agt (by rfl) T.n_sorted (by decide +kernel) (aaa (aae (pv 0)) aab))) (aaw (i:=2) abg.nd rfl (Or.inl rfl)) (aak (adt (DW.dt (ahm (adg (ada (aag G_is_number (hr.mono (by decide)) hg (tkOf rfl rfl rfl rfl) (aiA T) (by rfl) T.m_is_number T.F_is_number.kp (aaa (afI hr.units (aae (pv 0)) (aac (pv 2))) (aaa aaf (aaa (aqq (aac (pv 1)) aaf) aab)))))) (agR (abA ah3 alo (afI hr.units (aae (pv 0)) (aac (pv 2))) (aps (i:=3) (aet (own:=[("other",4)]) rfl abg.nd (apm (aac (pv 3))) (blkOk_by (own:=[("other",4)]) (N:=ad2) (sc:=(defScope aaM)) (by decide +kernel)) (fun _ _ _ _ _=>(aaw (i:=4) abg.nd rfl (Or.inl rfl))) (fun _ _ _ _ _=>aa5) (fun _ _ _ _ _=>(afI hr.units (aae (pv 3)) (aac (pv 4)))))) (by rfl))))) (aaj (adz rfl (tkOf rfl rfl rfl rfl) T.x_InvalidPlace (hr.mono (by decide)) (by rfl) T.m_InvalidPlace (aaa (afI hr.units (aae (pv 0)) (aac (pv 2))) aab))) ack)
      (aaj (amq hr.units (pv 3) (aac (pv 2)) (afI hr.units (aae (pv 0)) (aac (pv 2)))))))
      (aaj (aph (pv 3)))))))) (fun args Q E h=>?_)
  obtain ⟨x,y,rfl,hL_x,h⟩:=h
  obtain ⟨n,ks,val,hx,rfl,nd,l60,hk,h⟩:=h
  rcases hx with rfl | rfl
  · have hz:szl=16777216:=rfl
    refine aaT (fun s=>∃ a2 ys,ys.Perm ks/\sortedS ys=true/\ys.find? (fun z=>!nameOk z)=none/\s=[some (.d (.dk (kvD ks val))),some (.d (.int n)),a2,none,none]) (fun N hN=>?_) (fun s hs=>?_)
    · refine agM rfl (afh ks val) (by omega) (fun ys hp hso=>?_)
      refine abx ?_
      refine adX (fun r s=>∃ (dn rest:List Str) (a2:Option DV),ys=dn++rest/\(∀ z∈dn,nameOk z=true)/\r=rest.map .str/\s=[some (.d (.dk (kvD ks val))),some (.d (.int n)),a2,none,none]) (fun N1 d r s hN1 hs=>?_) (fun s hs=>?_) _ _ ⟨[],ys,_,rfl,(fun z h=>by cases h),rfl,rfl⟩
      · obtain ⟨dn,rest,a2,e1,hd,e2,rfl⟩:=hs
        cases rest with
        | nil=>cases e2
        | cons z rest=>
          rw [List.map_cons] at e2
          cases e2
          have mz:z∈ks:=hp.mem_iff.mp (by rw [e1];simp)
          refine ⟨rfl,rfl,_,rfl,rfl,(fun y e=>by cases e;exact (hk z mz).2),?_⟩
          cases en:nameOk z with
          | true=>
            have e3:nameB (.str z)=true:=en
            rw [e3]
            refine abo (brF (hN1 _ ⟨dn++[z],rest,_,by rw [e1];simp,fun y hy=>?_,rfl,rfl⟩))
            rcases List.mem_append.mp hy with hy | hy
            · exact hd y hy
            · rw [List.mem_singleton.mp hy];exact en
          | false=>
            have e3:nameB (.str z)=false:=en
            rw [e3]
            refine abo (brT ⟨rfl,aeK ((h ys hp hso).1 z ?_)⟩)
            rw [e1,List.find?_append,List.find?_eq_none.mpr (fun y hy=>by rw [hd y hy];simp)]
            show (List.find? (fun z=>!nameOk z) (z::rest))=some z
            rw [List.find?_cons_of_pos (by rw [en];rfl)]
      · obtain ⟨dn,rest,a2,e1,hd,e2,rfl⟩:=hs
        have:rest=[]:=by
          cases rest with
          | nil=>rfl
          | cons _ _=>cases e2
        subst this
        rw [List.append_nil] at e1
        subst e1
        exact hN _ ⟨_,_,hp,hso,List.find?_eq_none.mpr (fun y hy=>by rw [hd y hy];simp),rfl⟩
    obtain ⟨a2,ys,hp,hso,hno,rfl⟩:=hs
    have h2:=(h ys hp hso).2 hno
    refine aaT (fun s=>ks.length<=5/\s=[some (.d (.dk (kvD ks val))),some (.d (.int n)),a2,none,none]) (fun N hN=>?_) (fun s hs=>?_)
    · refine al1 rfl ?_
      rw [afE]
      refine acS ?_
      refine br (fun q=>?_) (fun q=>?_)
      · exact ⟨rfl,ahw (h2.1 (by have:=of_decide_eq_true q;omega))⟩
      · exact hN _ ⟨by have:=of_decide_eq_false q;omega,rfl⟩
    obtain ⟨l5,rfl⟩:=hs
    obtain ⟨h3,h4⟩:=h2.2 l5
    refine aaT (fun s=>s=[some (.d (.dk (kvD ks val))),some (.d (.int n)),a2,some (.own (.dk [])),none]) (fun N hN=>hN _ rfl) (fun s hs=>?_)
    subst hs
    have vz:∀ z∈ks,valD (kvD ks val) (.inr z)=some (val z):=fun z hz=>by rw [adV,if_pos hz]
    refine aaT (fun s=>plF val n [] ys=none/\∃ a2:Option DV,s=[some (.d (.dk (kvD ks val))),some (.d (.int n)),a2,some (.own (.dk (kvD ys val))),none]) (fun N hN=>?_) (fun s hs=>?_)
    · refine agM rfl (afh ks val) (by omega) (fun ys' hp' hso'=>?_)
      have ey:ys'=ys:=aaJ hso' hso (hp'.trans hp.symm)
      subst ey
      refine abx ?_
      have yl:ys'.length=ks.length:=hp.length_eq
      have ynd:ys'.Nodup:=hp.nodup_iff.mpr nd
      refine adX (fun r s=>∃ (dn rest:List Str) (a2:Option DV),ys'=dn++rest/\plF val n [] ys'=plF val n (dn.map val) rest/\(∀ z∈dn,flatD (val z)=true)/\r=rest.map .str/\s=[some (.d (.dk (kvD ks val))),some (.d (.int n)),a2,some (.own (.dk (kvD dn val))),none]) (fun N1 d r s hN1 hs=>?_) (fun s hs=>?_) _ _ ⟨[],ys',_,rfl,rfl,(fun z h=>by cases h),rfl,rfl⟩
      · obtain ⟨dn,rest,a2,e1,ep,fl,e2,rfl⟩:=hs
        cases rest with
        | nil=>cases e2
        | cons z rest=>
          rw [List.map_cons] at e2
          cases e2
          have mz:z∈ks:=hp.mem_iff.mp (by rw [e1];simp)
          have nz:z∉dn:=fun m=>by
            rw [e1] at ynd
            exact (List.nodup_append.mp ynd).2.2 z m z (List.mem_cons_self ..) rfl
          have ld:dn.length<=5:=by
            have:=congrArg List.length e1
            rw [List.length_append,List.length_cons] at this
            omega
          refine aaT (fun s=>numD 0 ((n:Int) - 1) (val z)=true/\inF (val z) (dn.map val)=false/\s=[some (.d (.dk (kvD ks val))),some (.d (.int n)),some (.d (.str z)),some (.own (.dk (kvD dn val))),none]) (fun N2 hN2=>?_) (fun s hs=>?_)
          · refine adI rfl rfl (vz z mz) ?_
            refine acS ?_
            refine ⟨rfl,rfl,_,_,_,rfl,(hk z mz).1,0,(n:Int) - 1,rfl,rfl,?_⟩
            cases e3:numD 0 ((n:Int) - 1) (val z) with
            | false=>
              refine abo (brT (brT ?_))
              refine adI rfl rfl (vz z mz) ?_
              exact ⟨rfl,acH (h3 _ (by rw [ep,ah0 (.inl e3)]))⟩
            | true=>
              have fz:flatD (val z)=true:=by
                cases ev:val z with
                | int i=>rfl
                | _=>rw [ev] at e3;cases e3
              refine abo (brF ?_)
              refine adI rfl rfl (vz z mz) ?_
              refine ⟨kvD dn val,rfl,?_⟩
              refine al2 ?_
              refine adr (fun d=>match d with | .str y=>val y | _=>.non) _ (by rw [List.length_map,afE];omega) (fun d hd M A m=>?_) ?_
              · obtain ⟨kv,hk,rfl⟩:=List.mem_map.mp hd
                obtain ⟨y,hy,rfl⟩:=List.mem_map.mp hk
                refine brT ?_
                exact adI rfl rfl (show valD (kvD dn val) (.inr y)=some (val y) by rw [adV,if_pos hy]) m
              · refine ⟨rfl,trivial,?_⟩
                have e4:(((kvD dn val).map fun kv=>keyD kv.1).map fun d=>match d with | .str y=>val y | _=>.non)=dn.map val:=by
                  unfold kvD
                  rw [List.map_map,List.map_map];rfl
                rw [e4]
                refine ap4 (ds:=dn.map val) rfl fz (by rw [List.all_map];exact List.all_eq_true.mpr fun y hy=>fl y hy) ?_
                cases e5:inF (val z) (dn.map val) with
                | false=>exact brF (hN2 _ ⟨e3,e5,rfl⟩)
                | true=>
                  refine brT ?_
                  refine adI rfl rfl (vz z mz) ?_
                  exact ⟨rfl,acH (h3 _ (by rw [ep,ah0 (.inr e5)]))⟩
          obtain ⟨e3,e5,rfl⟩:=hs
          have fz:flatD (val z)=true:=by
            cases ev:val z with
            | int i=>rfl
            | _=>rw [ev] at e3;cases e3
          refine adI rfl rfl (vz z mz) ?_
          refine ⟨⟨_,rfl⟩,by rw [afE];omega,hN1 _ ⟨dn++[z],rest,some (.d (.str z)),by rw [e1];simp,?_,(fun y hy=>?_),rfl,?_⟩⟩
          · rw [ep,ajF e3 e5,List.map_append];rfl
          · rcases List.mem_append.mp hy with hy | hy
            · exact fl y hy
            · rw [List.mem_singleton.mp hy];exact fz
          rw [agz (show valD (kvD dn val) (.inr z)=none by rw [adV,if_neg nz])]
          rw [al7];rfl
      · obtain ⟨dn,rest,a2,e1,ep,fl,e2,rfl⟩:=hs
        have:rest=[]:=by
          cases rest with
          | nil=>rfl
          | cons _ _=>cases e2
        subst this
        rw [List.append_nil] at e1
        subst e1
        exact hN _ ⟨ep,_,rfl⟩
    obtain ⟨ep,a2,rfl⟩:=hs
    exact ⟨_,rfl,h4 ep⟩
  · have hz:szl=16777216:=rfl
    refine aaT (fun s=>∃ a2 ys,ys.Perm ks/\sortedS ys=true/\ys.find? (fun z=>!nameOk z)=none/\s=[some (.bor (.dk (kvD ks val))),some (.d (.int n)),a2,none,none]) (fun N hN=>?_) (fun s hs=>?_)
    · refine agM rfl (afh ks val) (by omega) (fun ys hp hso=>?_)
      refine abx ?_
      refine adX (fun r s=>∃ (dn rest:List Str) (a2:Option DV),ys=dn++rest/\(∀ z∈dn,nameOk z=true)/\r=rest.map .str/\s=[some (.bor (.dk (kvD ks val))),some (.d (.int n)),a2,none,none]) (fun N1 d r s hN1 hs=>?_) (fun s hs=>?_) _ _ ⟨[],ys,_,rfl,(fun z h=>by cases h),rfl,rfl⟩
      · obtain ⟨dn,rest,a2,e1,hd,e2,rfl⟩:=hs
        cases rest with
        | nil=>cases e2
        | cons z rest=>
          rw [List.map_cons] at e2
          cases e2
          have mz:z∈ks:=hp.mem_iff.mp (by rw [e1];simp)
          refine ⟨rfl,rfl,_,rfl,rfl,(fun y e=>by cases e;exact (hk z mz).2),?_⟩
          cases en:nameOk z with
          | true=>
            have e3:nameB (.str z)=true:=en
            rw [e3]
            refine abo (brF (hN1 _ ⟨dn++[z],rest,_,by rw [e1];simp,fun y hy=>?_,rfl,rfl⟩))
            rcases List.mem_append.mp hy with hy | hy
            · exact hd y hy
            · rw [List.mem_singleton.mp hy];exact en
          | false=>
            have e3:nameB (.str z)=false:=en
            rw [e3]
            refine abo (brT ⟨rfl,aeK ((h ys hp hso).1 z ?_)⟩)
            rw [e1,List.find?_append,List.find?_eq_none.mpr (fun y hy=>by rw [hd y hy];simp)]
            show (List.find? (fun z=>!nameOk z) (z::rest))=some z
            rw [List.find?_cons_of_pos (by rw [en];rfl)]
      · obtain ⟨dn,rest,a2,e1,hd,e2,rfl⟩:=hs
        have:rest=[]:=by
          cases rest with
          | nil=>rfl
          | cons _ _=>cases e2
        subst this
        rw [List.append_nil] at e1
        subst e1
        exact hN _ ⟨_,_,hp,hso,List.find?_eq_none.mpr (fun y hy=>by rw [hd y hy];simp),rfl⟩
    obtain ⟨a2,ys,hp,hso,hno,rfl⟩:=hs
    have h2:=(h ys hp hso).2 hno
    refine aaT (fun s=>ks.length<=5/\s=[some (.bor (.dk (kvD ks val))),some (.d (.int n)),a2,none,none]) (fun N hN=>?_) (fun s hs=>?_)
    · refine al1 rfl ?_
      rw [afE]
      refine acS ?_
      refine br (fun q=>?_) (fun q=>?_)
      · exact ⟨rfl,ahw (h2.1 (by have:=of_decide_eq_true q;omega))⟩
      · exact hN _ ⟨by have:=of_decide_eq_false q;omega,rfl⟩
    obtain ⟨l5,rfl⟩:=hs
    obtain ⟨h3,h4⟩:=h2.2 l5
    refine aaT (fun s=>s=[some (.bor (.dk (kvD ks val))),some (.d (.int n)),a2,some (.own (.dk [])),none]) (fun N hN=>hN _ rfl) (fun s hs=>?_)
    subst hs
    have vz:∀ z∈ks,valD (kvD ks val) (.inr z)=some (val z):=fun z hz=>by rw [adV,if_pos hz]
    refine aaT (fun s=>plF val n [] ys=none/\∃ a2:Option DV,s=[some (.bor (.dk (kvD ks val))),some (.d (.int n)),a2,some (.own (.dk (kvD ys val))),none]) (fun N hN=>?_) (fun s hs=>?_)
    · refine agM rfl (afh ks val) (by omega) (fun ys' hp' hso'=>?_)
      have ey:ys'=ys:=aaJ hso' hso (hp'.trans hp.symm)
      subst ey
      refine abx ?_
      have yl:ys'.length=ks.length:=hp.length_eq
      have ynd:ys'.Nodup:=hp.nodup_iff.mpr nd
      refine adX (fun r s=>∃ (dn rest:List Str) (a2:Option DV),ys'=dn++rest/\plF val n [] ys'=plF val n (dn.map val) rest/\(∀ z∈dn,flatD (val z)=true)/\r=rest.map .str/\s=[some (.bor (.dk (kvD ks val))),some (.d (.int n)),a2,some (.own (.dk (kvD dn val))),none]) (fun N1 d r s hN1 hs=>?_) (fun s hs=>?_) _ _ ⟨[],ys',_,rfl,rfl,(fun z h=>by cases h),rfl,rfl⟩
      · obtain ⟨dn,rest,a2,e1,ep,fl,e2,rfl⟩:=hs
        cases rest with
        | nil=>cases e2
        | cons z rest=>
          rw [List.map_cons] at e2
          cases e2
          have mz:z∈ks:=hp.mem_iff.mp (by rw [e1];simp)
          have nz:z∉dn:=fun m=>by
            rw [e1] at ynd
            exact (List.nodup_append.mp ynd).2.2 z m z (List.mem_cons_self ..) rfl
          have ld:dn.length<=5:=by
            have:=congrArg List.length e1
            rw [List.length_append,List.length_cons] at this
            omega
          refine aaT (fun s=>numD 0 ((n:Int) - 1) (val z)=true/\inF (val z) (dn.map val)=false/\s=[some (.bor (.dk (kvD ks val))),some (.d (.int n)),some (.d (.str z)),some (.own (.dk (kvD dn val))),none]) (fun N2 hN2=>?_) (fun s hs=>?_)
          · refine adI rfl rfl (vz z mz) ?_
            refine acS ?_
            refine ⟨rfl,rfl,_,_,_,rfl,(hk z mz).1,0,(n:Int) - 1,rfl,rfl,?_⟩
            cases e3:numD 0 ((n:Int) - 1) (val z) with
            | false=>
              refine abo (brT (brT ?_))
              refine adI rfl rfl (vz z mz) ?_
              exact ⟨rfl,acH (h3 _ (by rw [ep,ah0 (.inl e3)]))⟩
            | true=>
              have fz:flatD (val z)=true:=by
                cases ev:val z with
                | int i=>rfl
                | _=>rw [ev] at e3;cases e3
              refine abo (brF ?_)
              refine adI rfl rfl (vz z mz) ?_
              refine ⟨kvD dn val,rfl,?_⟩
              refine al2 ?_
              refine adr (fun d=>match d with | .str y=>val y | _=>.non) _ (by rw [List.length_map,afE];omega) (fun d hd M A m=>?_) ?_
              · obtain ⟨kv,hk,rfl⟩:=List.mem_map.mp hd
                obtain ⟨y,hy,rfl⟩:=List.mem_map.mp hk
                refine brT ?_
                exact adI rfl rfl (show valD (kvD dn val) (.inr y)=some (val y) by rw [adV,if_pos hy]) m
              · refine ⟨rfl,trivial,?_⟩
                have e4:(((kvD dn val).map fun kv=>keyD kv.1).map fun d=>match d with | .str y=>val y | _=>.non)=dn.map val:=by
                  unfold kvD
                  rw [List.map_map,List.map_map];rfl
                rw [e4]
                refine ap4 (ds:=dn.map val) rfl fz (by rw [List.all_map];exact List.all_eq_true.mpr fun y hy=>fl y hy) ?_
                cases e5:inF (val z) (dn.map val) with
                | false=>exact brF (hN2 _ ⟨e3,e5,rfl⟩)
                | true=>
                  refine brT ?_
                  refine adI rfl rfl (vz z mz) ?_
                  exact ⟨rfl,acH (h3 _ (by rw [ep,ah0 (.inr e5)]))⟩
          obtain ⟨e3,e5,rfl⟩:=hs
          have fz:flatD (val z)=true:=by
            cases ev:val z with
            | int i=>rfl
            | _=>rw [ev] at e3;cases e3
          refine adI rfl rfl (vz z mz) ?_
          refine ⟨⟨_,rfl⟩,by rw [afE];omega,hN1 _ ⟨dn++[z],rest,some (.d (.str z)),by rw [e1];simp,?_,(fun y hy=>?_),rfl,?_⟩⟩
          · rw [ep,ajF e3 e5,List.map_append];rfl
          · rcases List.mem_append.mp hy with hy | hy
            · exact fl y hy
            · rw [List.mem_singleton.mp hy];exact fz
          rw [agz (show valD (kvD dn val) (.inr z)=none by rw [adV,if_neg nz])]
          rw [al7];rfl
      · obtain ⟨dn,rest,a2,e1,ep,fl,e2,rfl⟩:=hs
        have:rest=[]:=by
          cases rest with
          | nil=>rfl
          | cons _ _=>cases e2
        subst this
        rw [List.append_nil] at e1
        subst e1
        exact hN _ ⟨ep,_,rfl⟩
    obtain ⟨ep,a2,rfl⟩:=hs
    exact ⟨_,rfl,h4 ep⟩
end
section
variable {P:Program} {w:World} {K:PySem.W.Frag} {mg:Str->Option Value} {base:Heap} {a:Nat->Addr} {d:Nat->FuncData}
abbrev wld (K:PySem.W.Frag) (tabs:List D) (nm:List (Key × D)):D:=.ins (He.ga K "World") [("own_tables",.lst tabs),("own_names",.dk nm)]
abbrev tabL (n:Nat) (f:Nat->Nat->Rat):D:=.lst ((List.range n).map fun i=>rowX n fun j=>rD (f i j))
theorem anZ {val:Str->D}:∀ {ks:List Str},(∀ z∈ks,(val z).sol=true)->D.solK (kvD ks val)=true
  | [],_=>by
    unfold kvD
    rw [List.map_nil,D.solK]
  | z::r,h=>by
    have q:=anZ (ks:=r) fun y hy=>h y (List.mem_cons_of_mem _ hy)
    unfold kvD at q ⊢
    rw [List.map_cons,D.solK,h z (List.mem_cons_self ..),q];rfl
abbrev af1:List Str:=["self","names","foot","cart","tables"]
theorem adE:FnScope af1 ["self","names","foot","cart"] (defScope aa3):=⟨rfl,rfl,rfl,by decide +kernel,rfl,by decide +kernel,by decide +kernel⟩
theorem adG (T:Tx P K mg base a d):FnR P w K mg base 7 (a aas) (d aas) ["self","names","foot","cart"] (upIN K (He.ga K "World") (fun args Q E=>∃ nm:DV,∃ ft:D,∃ ct:D,args=[nm,.d ft,.d ct]/\NoSee nm/\(∃ (n:Nat) (e:Nat->Nat->D) (f:Nat->Nat->Rat) (ks:List Str) (val:Str->D) (fs:List (Nat->Nat->Rat)),(nm=.d (.dk (kvD ks val))\/nm=.bor (.dk (kvD ks val)))/\ft=tabX n e/\TabOk n e f/\((ct=.non/\fs=[])\/∃ (e':Nat->Nat->D) (f':Nat->Nat->Rat),ct=tabX n e'/\TabOk n e' f'/\fs=[f'])/\(∀ z∈ks,(val z).sol=true)/\NmDo K n ks val (fun ys=>∀ t:FT,t.d=wld K (tabL n f::fs.map (tabL n)) (kvD ys val)->t.sol=true->Q t) E))):=by
  have G_checked_places:FnG P w K mg base 4 (a aaN) (d aaN) ["names","size"] (fun args Q E=>∃ x:DV,∃ y:D,args=[x,.d y]/\NoSee x/\(∃ (n:Nat) (ks:List Str) (val:Str->D),(x=.d (.dk (kvD ks val))\/x=.bor (.dk (kvD ks val)))/\y=.int n/\NmDo K n ks val (fun ys=>Q (.d (.dk (kvD ys val)))) E)):=afA T
  have G_checked_table:FnR P w K mg base 6 (a aaV) (d aaV) ["layer","rows","size"] (upSN K (fun args Q E=>∃ ly:D,∃ x:D,∃ sz:D,args=[.d ly,.d x,.d sz]/\(∃ (n:Nat) (e:Nat->Nat->D) (f:Nat->Nat->Rat),x=tabX n e/\TabOk n e f/\(sz=.non\/sz=.int n)/\∀ t:FT,t.d=.lst ((List.range n).map fun i=>rowX n fun j=>rD (f i j))->t.sol=true->Q t))):=afW T
  refine apb T.F_World___init__ adE (by rintro _ Q E ⟨nm,ft,ct,rfl,hL_nm,h⟩;rfl) (fun args Q E h=>aia (by obtain ⟨nm,ft,ct,rfl,hL_nm,h⟩:=h;intro x hx;simp only [List.mem_cons,List.not_mem_nil,or_false] at hx;rcases hx with rfl | rfl | rfl<;>first | assumption | exact fun _ z=>by cases z)) (fun cdv A outer s H E hr hg=>(aco (an0 (i:=4) adE.nd rfl (Or.inl rfl) (apd (apf (ahl (amt G_checked_table (hr.mono (by decide)) hg (tkOf rfl rfl rfl rfl) (adK T) (by rfl) T.m_checked_table T.F_checked_table.kp (aaa aa7 (aaa (aac (pv 2)) (aaa aer aab))))) aql)))
      (aco (fs_if (abA op_notN ahT (aae (pv 3)) aer (nomark _)) (afG (akB (agP (pv 4)) (ahl (amt G_checked_table (hr.mono (by decide)) hg (tkOf rfl rfl rfl rfl) (adK T) (by rfl) T.m_checked_table T.F_checked_table.kp (aaa aa7 (aaa (aac (pv 3)) (aaa (aah call_len aa0 (by rfl) T.n_len PySem.boot_len (aaa (aae (pv 2)) aab)) aab))))))) ao8)
      (aco (an2 T.cl_World T.na_World_own_tables (agP (pv 0)) (aqk (pv 4)))
      (afG (an2 T.cl_World T.na_World_own_names (agP (pv 0)) (ahl (agT (aag G_checked_places (hr.mono (by decide)) hg (tkOf rfl rfl rfl rfl) (afr T) (by rfl) T.m_checked_places T.F_checked_places.kp (aaa (aac (pv 1)) (aaa (aah call_len aa0 (by rfl) T.n_len PySem.boot_len (aaa (aae (pv 2)) aab)) aab))))))))))) (fun args Q E xx h=>?_)
  obtain ⟨nm,ft,ct,rfl,hL_nm,h⟩:=h
  obtain ⟨n,e,f,ks,val,fs,hnm,rfl,tk,h,hsv,nk⟩:=h
  have hz:szl=16777216:=rfl
  refine acp (fun s fl=>∃ a t0,t0.d=tabL n f/\t0.sol=true/\s=[some (.d (.raw (.ref xx))),some nm,some (.d (tabX n e)),some (.d ct),some (.d (.raw (.ref a)))]/\fl=[.lst a [t0],.ins xx (He.ga K "World") []]) (fun N hN=>?_) (fun s fl hs=>?_)
  · refine ⟨rfl,rfl,_,_,_,rfl,n,e,f,rfl,tk,.inl rfl,fun t e1 e2=>?_⟩
    refine ⟨by show 1<=szl;omega,fun a=>hN _ _ ⟨a,t,e1,e2,rfl,rfl⟩⟩
  obtain ⟨a,t0,d0,s0,rfl,rfl⟩:=hs
  refine acp (fun s fl=>∃ ts,FT.dL ts=tabL n f::fs.map (tabL n)/\FT.solL ts=true/\s=[some (.d (.raw (.ref xx))),some nm,some (.d (tabX n e)),some (.d ct),some (.d (.raw (.ref a)))]/\fl=[.lst a ts,.ins xx (He.ga K "World") []]) (fun N hN=>?_) (fun s fl hs=>?_)
  · rcases h with ⟨rfl,rfl⟩ | ⟨e',f',rfl,tk',rfl⟩
    · refine al4 rfl rfl ?_
      exact brF (hN _ _ ⟨[t0],by rw [FT.dL,FT.dL,d0];rfl,by rw [FT.solL,FT.solL,s0];rfl,rfl,rfl⟩)
    · refine al4 rfl rfl ?_
      refine brT ?_
      refine ⟨a,rfl,⟨[0],_,rfl⟩,?_⟩
      refine aeb ?_
      refine ⟨rfl,rfl,_,_,_,rfl,n,e',f',rfl,tk',.inr rfl,fun t e1 e2=>?_⟩
      refine ⟨[0],_,rfl,?_,by show 1 < szl;omega,hN _ _ ⟨[t0,t],by rw [FT.dL,FT.dL,FT.dL,d0,e1];rfl,by rw [FT.solL,FT.solL,FT.solL,s0,e2];rfl,rfl,rfl⟩⟩
      rcases hnm with rfl | rfl<;>rfl
  obtain ⟨ts,dt,st,rfl,rfl⟩:=hs
  refine acp (fun s fl=>s=[some (.d (.raw (.ref xx))),some nm,some (.d (tabX n e)),some (.d ct),some (.d (.raw (.ref a)))]/\fl=[.ins xx (He.ga K "World") [("own_tables",.lst a ts)]]) (fun N hN=>?_) (fun s fl hs=>?_)
  · refine ⟨0,a,_,rfl,rfl,rfl,?_⟩
    refine ⟨xx,rfl,[0],[],rfl,by decide,?_,hN _ _ ⟨rfl,rfl⟩⟩
    rcases hnm with rfl | rfl<;>rfl
  obtain ⟨rfl,rfl⟩:=hs
  obtain ⟨nd,l60,hk,nh⟩:=nk
  have fin:∀ ys:List Str,ys.Perm ks->(∀ t:FT,t.d=wld K (tabL n f::fs.map (tabL n)) (kvD ys val)->t.sol=true->Q t)->endIN xx (He.ga K "World") Q [.ins xx (He.ga K "World") [("own_tables",.lst a ts),("own_names",.leaf (.dk (kvD ys val)))]]:=fun ys hp hQ=>by
    refine ⟨_,List.mem_cons_self ..,hQ _ ?_ ?_⟩
    · rw [FT.d,FT.dF,FT.dF,FT.dF,amz,dt,FT.d]
    · rw [FT.sol,FT.solF,FT.solF,FT.solF,ahP,st,FT.sol,D.sol,Bool.and_true,Bool.true_and]
      exact anZ fun z hz=>hsv z (hp.mem_iff.mp hz)
  rcases hnm with rfl | rfl
  all_goals
    refine aeb ?_
    refine ⟨rfl,rfl,_,_,rfl,(fun _ z=>by cases z),n,ks,val,(by first | exact .inl rfl | exact .inr rfl),rfl,nd,l60,hk,fun ys hp hso=>?_⟩
    obtain ⟨h1,h2⟩:=nh ys hp hso
    refine ⟨h1,fun hno=>⟨(h2 hno).1,fun l5=>⟨((h2 hno).2 l5).1,fun hno2=>?_⟩⟩⟩
    exact ⟨_,rfl,xx,rfl,[0],_,rfl,by show 1 < 1000;decide,rfl,fin ys hp (((h2 hno).2 l5).2 hno2)⟩
theorem amd (pl:Str->Nat) (ks:List Str):intsD (nmD ks pl):=fun p hp=>by
  obtain ⟨z,_,rfl⟩:=List.mem_map.mp hp
  exact ⟨_,rfl⟩
theorem aiW {α:Type} (F:Nat->α) (m:Nat):(List.range (m + 1)).map F=F 0::(List.range m).map fun k=>F (k + 1):=by
  rw [List.range_succ_eq_map,List.map_cons,List.map_map];rfl
abbrev tabsF (n m:Nat) (F:Nat->Nat->Nat->Rat):List D:=(List.range (m + 1)).map fun k=>tabL n (F k)
theorem acU (n m:Nat) (F:Nat->Nat->Nat->Rat):tabsF n m F=tabL n (F 0)::((List.range m).map fun k=>F (k + 1)).map (tabL n):=by
  unfold tabsF
  rw [aiW,List.map_map];rfl
theorem apR {q:Rat} (h:Nb 800 q):q.num.natAbs < 10 ^ 267/\q.den < 10 ^ 267:=by
  have e:(2:Nat) ^ 800<=10 ^ 267:=by
    refine Nat.le_trans (Nat.pow_le_pow_right (by decide) (by decide:800<=3 * 267)) ?_
    rw [Nat.pow_mul]
    exact Nat.pow_le_pow_left (by decide) _
  exact ⟨Nat.lt_of_lt_of_le h.n e,Nat.lt_of_lt_of_le h.d e⟩
theorem apD {n:Nat} {f:Nat->Rat} (n9:n<=9) (h:∀ j,j < n->Nb 800 (f j)):Sm 267 2 5000 (rowX n fun j=>rD (f j)):=
  (adD (agr (m:=9) (fun x hx=>by
    obtain ⟨j,hj,rfl⟩:=List.mem_map.mp hx
    have e:=apR (h j (List.mem_range.mp hj))
    exact apE e.1 e.2) (by rw [List.length_map,List.length_range];exact n9))).mono (by decide) (by decide)
theorem aog {n:Nat} {f:Nat->Nat->Rat} (n9:n<=9) (h:∀ i j,i < n->j < n->Nb 800 (f i j)):Sm 267 3 50000 (tabL n f):=
  (adD (agr (m:=9) (fun x hx=>by
    obtain ⟨i,hi,rfl⟩:=List.mem_map.mp hx
    exact apD n9 fun j hj=>h i j (List.mem_range.mp hi) hj) (by rw [List.length_map,List.length_range];exact n9))).mono (by decide) (by decide)
theorem ahR {n m:Nat} {F:Nat->Nat->Nat->Rat} (n9:n<=9) (m1:m<=1) (h:∀ k i j,k<=m->i < n->j < n->Nb 800 (F k i j)):Sms 267 3 (2 * 50002) (tabsF n m F):=
  agr (m:=2) (fun x hx=>by
    obtain ⟨k,hk,rfl⟩:=List.mem_map.mp hx
    have:=List.mem_range.mp hk
    exact aog n9 fun i j hi hj=>h k i j (by omega) hi hj) (by rw [List.length_map,List.length_range];omega)
abbrev planF (n m:Nat) (ks:List Str) (pl:Str->Nat) (F:Nat->Nat->Nat->Rat):D:=.tup [.lst (ks.map fun s=>.tup [.str s,.int (pl s)]),.lst (tabsF n m F)]
theorem an4 {m:Nat} {fs:List (Nat->Nat->Rat)} (h:fs.length=m):∃ F:Nat->Nat->Nat->Rat,fs=(List.range m).map F:=by
  refine ⟨fun k=>fs.getD k (fun _ _=>0),?_⟩
  apply List.ext_getElem
  · simp [h]
  · intro i h1 h2
    simp [List.getD_eq_getElem?_getD,h1]
theorem amg {pl:Str->Nat} {ks:List Str} {z:Str} (h:z∈ks):hitD (nmD ks pl) (.inr z,.int (pl z))=true:=by
  unfold hitD
  dsimp only
  rw [agI,if_pos h]
  dsimp only
  exact beq_self_eq_true _
theorem ajn (ks:List Str) (pl:Str->Nat):eqKD (nmD ks pl) (nmD ks pl)=true:=by
  unfold eqKD
  rw [beq_self_eq_true,Bool.true_and,List.all_eq_true]
  intro p hp
  obtain ⟨z,hz,rfl⟩:=List.mem_map.mp hp
  exact amg hz
abbrev ajg:List Str:=["self"]
theorem ahW:FnScope ajg ["self"] (defScope ab3):=⟨rfl,rfl,rfl,by decide +kernel,rfl,by decide +kernel,by decide +kernel⟩
theorem afa (T:Tx P K mg base a d):FnG P w K mg base 1 (a abe) (d abe) ["self"] (sp1 fun me Q _=>∃ (n:Nat) (f:Nat->Nat->Rat) (tabs:List D) (nm:List (Key × D)),me=wld K (tabL n f::tabs) nm/\Q (.d (.int n))):=by
  refine acD T.F_World_size ahW (fun cdv A outer s H E hr hg=>(aaj (aan (aah call_len aa0 (by rfl) T.n_len PySem.boot_len (aaa (aat ix_seq aai (aeu (K:=K) (aae (pv 0))) aaf (fun _ _=>rfl)) aab))))) (fun me Q E h=>?_)
  replace h:∃ (n:Nat) (f:Nat->Nat->Rat) (tabs:List D) (nm:List (Key × D)),me=wld K (tabL n f::tabs) nm/\Q (.d (.int n)):=h
  obtain ⟨n,f,tabs,nm,rfl,h⟩:=h
  refine agN T.cl_World T.na_World_own_tables rfl ?_
  refine aej rfl aiw ?_
  refine acR (ds:=(List.range n).map fun i=>rowX n fun j=>rD (f i j)) rfl ?_
  rw [List.length_map,List.length_range];exact h
abbrev ahi:List Str:=["self"]
theorem agv:FnScope ahi ["self"] (defScope abv):=⟨rfl,rfl,rfl,by decide +kernel,rfl,by decide +kernel,by decide +kernel⟩
theorem acO (T:Tx P K mg base a d):FnG P w K mg base 1 (a aap) (d aap) ["self"] (sp1 fun me Q _=>∃ (tabs:List D) (nm:List (Key × D)),me=wld K tabs nm/\Q (.d (.int tabs.length))):=by
  refine acD T.F_World_layers agv (fun cdv A outer s H E hr hg=>(aaj (aan (aah call_len aa0 (by rfl) T.n_len PySem.boot_len (aaa (aeu (K:=K) (aae (pv 0))) aab))))) (fun me Q E h=>?_)
  replace h:∃ (tabs:List D) (nm:List (Key × D)),me=wld K tabs nm/\Q (.d (.int tabs.length)):=h
  obtain ⟨tabs,nm,rfl,h⟩:=h
  refine agN T.cl_World T.na_World_own_tables rfl ?_
  exact acR rfl h
abbrev aih:List Str:=["self"]
theorem ahc:FnScope aih ["self"] (defScope abO):=⟨rfl,rfl,rfl,by decide +kernel,rfl,by decide +kernel,by decide +kernel⟩
theorem adC (T:Tx P K mg base a d):FnG P w K mg base 1 (a aaC) (d aaC) ["self"] (sp1 fun me Q _=>∃ (tabs:List D) (ks:List Str) (val:Str->D),me=wld K tabs (kvD ks val)/\ks.length < 64/\∀ ys:List Str,ys.Perm ks->sortedS ys=true->Q (.own (.lst (ys.map .str)))):=by
  refine acD T.F_World_names ahc (fun cdv A outer s H E hr hg=>(aaj (aan (aah (call_sortedD rfl) agt (by rfl) T.n_sorted (by decide +kernel) (aaa (aeu (K:=K) (aae (pv 0))) aab))))) (fun me Q E h=>?_)
  replace h:∃ (tabs:List D) (ks:List Str) (val:Str->D),me=wld K tabs (kvD ks val)/\ks.length < 64/\∀ ys:List Str,ys.Perm ks->sortedS ys=true->Q (.own (.lst (ys.map .str))):=h
  obtain ⟨tabs,ks,val,rfl,hl,h⟩:=h
  refine agN T.cl_World T.na_World_own_names rfl ?_
  exact agM rfl (afh ks val) hl (fun ys hp hs=>h ys hp hs)
def hasB (nm:List (Key × D)):D->Bool
  | .str z=>(valD nm (.inr z)).isSome
  | _=>false
abbrev aeF:List Str:=["self","name"]
theorem aef:FnScope aeF ["self","name"] (defScope aay):=⟨rfl,rfl,rfl,by decide +kernel,rfl,by decide +kernel,by decide +kernel⟩
theorem ac8 (T:Tx P K mg base a d):FnG P w K mg base 1 (a aam) (d aam) ["self","name"] (sp2 fun me x Q _=>∃ (tabs:List D) (nm:List (Key × D)),me=wld K tabs nm/\kindD x=true/\Q (.d (.bl (hasB nm x)))):=by
  refine aem T.F_World___contains__ aef (fun cdv A outer s H E hr hg=>(aaj (aan (afn (aah call_isi afu (by rfl) T.n_isinstance (by decide +kernel) (aaa (aae (pv 1)) (aaa (ahn (T:="str") (by rfl) T.n_str (by decide +kernel)) aab))) (afl (aqu hr.units (aac (pv 1)) (aeu (K:=K) (aae (pv 0))))))))) (fun me x Q E h=>?_)
  replace h:∃ (tabs:List D) (nm:List (Key × D)),me=wld K tabs nm/\kindD x=true/\Q (.d (.bl (hasB nm x))):=h
  obtain ⟨tabs,nm,rfl,k,h⟩:=h
  refine ak1 rfl k (by decide) ?_
  cases x with
  | str z=>
    refine brT ?_
    refine agN T.cl_World T.na_World_own_names rfl ?_
    exact l_din rfl rfl h
  | ins _ _=>cases k
  | dk _=>cases k
  | dt _=>cases k
  | any=>cases k
  | raw _=>cases k
  | _=>exact brF h
abbrev aig:List Str:=["self","name"]
theorem ahb:FnScope aig ["self","name"] (defScope abN):=⟨rfl,rfl,rfl,by decide +kernel,rfl,by decide +kernel,by decide +kernel⟩
theorem aeN (T:Tx P K mg base a d):FnG P w K mg base 3 (a aaK) (d aaK) ["self","name"] (sp2 fun me x Q E=>∃ (tabs:List D) (ks:List Str) (val:Str->D),me=wld K tabs (kvD ks val)/\kindD x=true/\(hasB (kvD ks val) x=false->E (.ref (He.ga K "UnknownName")) (abQ x))/\∀ z∈ks,x=.str z->Q (.d (val z))):=by
  have G_World___contains__:FnG P w K mg base 1 (a aam) (d aam) ["self","name"] (sp2 fun me x Q _=>∃ (tabs:List D) (nm:List (Key × D)),me=wld K tabs nm/\kindD x=true/\Q (.d (.bl (hasB nm x)))):=ac8 T
  refine aem T.F_World_place ahb (fun cdv A outer s H E hr hg=>(aak (adt (abA (alE T.me_World___contains__ G_World___contains__ (hr.mono (by decide)) hg (acf T)) (ajz (K:=K) (n:=true)) (aac (pv 1)) (aac (pv 0)) (by rfl)) (aaj (adz rfl (tkOf rfl rfl rfl rfl) T.x_UnknownName (hr.mono (by decide)) (by rfl) T.m_UnknownName (aaa (aac (pv 1)) aab))) ack)
      (aaj (aan (afI hr.units (aeu (K:=K) (aae (pv 0))) (aac (pv 1))))))) (fun me x Q E h=>?_)
  replace h:∃ (tabs:List D) (ks:List Str) (val:Str->D),me=wld K tabs (kvD ks val)/\kindD x=true/\(hasB (kvD ks val) x=false->E (.ref (He.ga K "UnknownName")) (abQ x))/\∀ z∈ks,x=.str z->Q (.d (val z)):=h
  obtain ⟨tabs,ks,val,rfl,k,h0,h1⟩:=h
  refine aaT (fun s=>hasB (kvD ks val) x=true/\s=[some (.d (wld K tabs (kvD ks val))),some (.d x)]) (fun N hN=>?_) (fun s hs=>?_)
  · refine aoV ⟨_,_,rfl,_,_,rfl,k,?_⟩
    cases e:hasB (kvD ks val) x with
    | true=>exact brF (hN _ ⟨e,rfl⟩)
    | false=>exact brT ⟨rfl,ag5 (h0 e)⟩
  obtain ⟨e,rfl⟩:=hs
  cases x with
  | str z=>
    have e1:(valD (kvD ks val) (.inr z)).isSome=true:=e
    rw [adV] at e1
    have mz:z∈ks:=by
      by_cases m:z∈ks
      · exact m
      · rw [if_neg m] at e1;cases e1
    refine agN T.cl_World T.na_World_own_names rfl ?_
    exact adI rfl rfl (by rw [adV,if_pos mz]) (h1 z mz rfl)
  | _=>cases e
def layIx:D->Nat
  | .str z=>if z="foot" then 0 else 1
  | _=>0
theorem apY {m:Nat} {x:D} (hm:m<=2) (h:layB m x=true):∃ z:Str,x=.str z/\layIx x < m/\((["foot","cart"]:List Str)[layIx x]?=some z)/\∀ k,k < layIx x->(["foot","cart"]:List Str)[k]?≠some z:=by
  cases x with
  | str z=>
    refine ⟨z,rfl,?_⟩
    have fc:("foot":Str)≠"cart":=by decide
    unfold layB inF at h
    match m,hm,h with
    | 0,_,h=>cases h
    | 1,_,h=>
      have e:("foot":Str)=z:=by
        rcases Bool.or_eq_true_iff.mp (show ((("foot":Str) == z) || false)=true from h) with q | q
        · exact eq_of_beq q
        · cases q
      subst e
      exact ⟨by decide,by decide,fun k hk=>absurd hk (by show ¬ k < 0;omega)⟩
    | 2,_,h=>
      rcases Bool.or_eq_true_iff.mp (show ((("foot":Str) == z) || ((("cart":Str) == z) || false))=true from h) with q | q
      · have e:=eq_of_beq q
        subst e
        exact ⟨by decide,by decide,fun k hk=>absurd hk (by show ¬ k < 0;omega)⟩
      · rcases Bool.or_eq_true_iff.mp q with q | q
        · have e:=eq_of_beq q
          subst e
          refine ⟨by decide,by decide,fun k hk=>?_⟩
          have hk:k < 1:=hk
          have:k=0:=by omega
          subst this
          decide
        · cases q
  | _=>cases h
abbrev agK:List Str:=["self","layer"]
theorem afU:FnScope agK ["self","layer"] (defScope abh):=⟨rfl,rfl,rfl,by decide +kernel,rfl,by decide +kernel,by decide +kernel⟩
theorem afX (T:Tx P K mg base a d):FnG P w K mg base 3 (a aaW) (d aaW) ["self","layer"] (sp2 fun me x Q E=>∃ (tabs:List D) (nm:List (Key × D)),me=wld K tabs nm/\tabs.length<=2/\kindD x=true/\(layB tabs.length x=false->E (.ref (He.ga K "InvalidLayer")) (aaS x))/\(layB tabs.length x=true->∀ t,tabs[layIx x]?=some t->Q (.d t))):=by
  have G_World_layers:FnG P w K mg base 1 (a aap) (d aap) ["self"] (sp1 fun me Q _=>∃ (tabs:List D) (nm:List (Key × D)),me=wld K tabs nm/\Q (.d (.int tabs.length))):=acO T
  have G_is_layer:FnG P w K mg base 1 (a acC) (d acC) ["value","layers"] (sp2 fun x y Q _=>kindD x=true/\∃ m:Nat,y=.int m/\m<=2/\Q (.d (.bl (layB m x)))):=ajH T
  refine aem T.F_World_rows_of afU (fun cdv A outer s H E hr hg=>(aak (adt (adg (ada (aag G_is_layer (hr.mono (by decide)) hg (tkOf rfl rfl rfl rfl) (ajt T) (by rfl) T.m_is_layer T.F_is_layer.kp (aaa (aac (pv 1)) (aaa (ae1 (aac (pv 0)) T.cl_World T.pr_World_layers G_World_layers (hr.mono (by decide)) hg (ace T)) aab))))) (aaj (adz rfl (tkOf rfl rfl rfl rfl) T.x_InvalidLayer (hr.mono (by decide)) (by rfl) T.m_InvalidLayer (aaa (aac (pv 1)) aab))) ack)
      (aaj (aan (aat ix_seq aai (aeu (K:=K) (aae (pv 0))) (anv (by rfl) T.t_LAYERS (aac (pv 1))) (fun _ _=>rfl)))))) (fun me x Q E h=>?_)
  replace h:∃ (tabs:List D) (nm:List (Key × D)),me=wld K tabs nm/\tabs.length<=2/\kindD x=true/\(layB tabs.length x=false->E (.ref (He.ga K "InvalidLayer")) (aaS x))/\(layB tabs.length x=true->∀ t,tabs[layIx x]?=some t->Q (.d t)):=h
  obtain ⟨tabs,nm,rfl,hm,k,h0,h1⟩:=h
  refine aaT (fun s=>layB tabs.length x=true/\s=[some (.d (wld K tabs nm)),some (.d x)]) (fun N hN=>?_) (fun s hs=>?_)
  · refine ⟨rfl,_,rfl,tabs,nm,rfl,?_⟩
    refine ⟨rfl,rfl,_,_,rfl,k,tabs.length,rfl,hm,?_⟩
    cases e:layB tabs.length x with
    | true=>exact abo (brF (hN _ ⟨e,rfl⟩))
    | false=>exact abo (brT ⟨rfl,agh (h0 e)⟩)
  obtain ⟨e,rfl⟩:=hs
  obtain ⟨z,rfl,g1,g2,g3⟩:=apY hm e
  have g4:tabs[layIx (.str z)]?=some (tabs[layIx (.str z)]):=List.getElem?_eq_getElem g1
  refine agN T.cl_World T.na_World_own_tables rfl ?_
  refine l_idx (ss:=["foot","cart"]) rfl g2 g3 ?_
  refine aej (ds:=tabs) rfl (d:=tabs[layIx (.str z)]) ?_ (h1 e _ g4)
  exact an8 g4
abbrev afd:List Str:=["self","layer","row"]
theorem adB:FnScope afd ["self","layer"] (defScope abn):=⟨rfl,rfl,rfl,by decide +kernel,rfl,by decide +kernel,by decide +kernel⟩
theorem aeM (T:Tx P K mg base a d):FnR P w K mg base 5 (a aaB) (d aaB) ["self","layer"] (upSN K (fun args Q E=>∃ me:D,∃ x:D,args=[.d me,.d x]/\(∃ (n:Nat) (f:Nat->Nat->Rat) (fs:List (Nat->Nat->Rat)) (nm:List (Key × D)),me=wld K (tabL n f::fs.map (tabL n)) nm/\n<=9/\fs.length<=1/\kindD x=true/\(layB (fs.length + 1) x=false->E (.ref (He.ga K "InvalidLayer")) (aaS x))/\(layB (fs.length + 1) x=true->∀ g,(f::fs)[layIx x]?=some g->∀ t:FT,t.d=tabL n g->t.sol=true->Q t)))):=by
  have G_World_rows_of:FnG P w K mg base 3 (a aaW) (d aaW) ["self","layer"] (sp2 fun me x Q E=>∃ (tabs:List D) (nm:List (Key × D)),me=wld K tabs nm/\tabs.length<=2/\kindD x=true/\(layB tabs.length x=false->E (.ref (He.ga K "InvalidLayer")) (aaS x))/\(layB tabs.length x=true->∀ t,tabs[layIx x]?=some t->Q (.d t))):=afX T
  refine an3 T.F_World_table adB (by rintro _ Q E ⟨me,x,rfl,h⟩;rfl) (fun args Q E h=>aia (by obtain ⟨me,x,rfl,h⟩:=h;intro x hx;simp only [List.mem_cons,List.not_mem_nil,or_false] at hx;rcases hx with rfl | rfl<;>first | assumption | exact fun _ z=>by cases z)) (fun cdv A outer s H E hr hg=>(afG (an1 (ahl (apk (own:=[("row",2)]) rfl adB.nd (acE (amv (aac (pv 0)) T.cl_World T.me_World_rows_of G_World_rows_of (hr.mono (by decide)) hg (tkOf rfl rfl rfl rfl) (afM T) (aaa (aac (pv 1)) aab))) (blkOk_by (own:=[("row",2)]) (N:=afd) (sc:=(defScope abn)) (by decide +kernel)) (fun _ _ _ _ _=>(aaw (i:=2) adB.nd rfl (Or.inl rfl))) (fun _ _ _ _ _=>aa5) (fun _ _ _ _ _=>(amr (adY call_list_of ake (by rfl) T.n_list (by decide +kernel) (aaa (aae (pv 2)) aab))))))))) (fun args Q E h=>?_)
  obtain ⟨me,x,rfl,h⟩:=h
  obtain ⟨n,f,fs,nm,rfl,n9,hm,kx,h0,h1⟩:=h
  have hz:szl=16777216:=rfl
  have tl:(tabL n f::fs.map (tabL n)).length=fs.length + 1:=by rw [List.length_cons,List.length_map]
  refine ⟨rfl,rfl,rfl,rfl,_,_,rfl,_,_,rfl,by rw [tl];omega,kx,(fun z=>by rw [tl] at z;exact h0 z),(fun z t e=>?_)⟩
  rw [tl] at z
  have e2:((f::fs).map (tabL n))[layIx x]?=some t:=e
  rw [List.getElem?_map] at e2
  obtain ⟨g,e3,e4⟩:=Option.map_eq_some_iff.mp e2
  subst e4
  refine abx ?_
  refine alS (fun i=>rowX n fun j=>rD (g i j)) (fun i=>rowX n fun j=>rD (g i j)) [some (.d (wld K (tabL n f::fs.map (tabL n)) nm)),some (.d x),none] (by omega) (fun i hi M A m=>?_) (fun ts e1 e2 C=>h1 z g e3 _ ?_ ?_)
  · refine brT ?_
    refine alZ (ds:=(List.range n).map fun j=>rD (g i j)) rfl ⟨_,rfl,fun a=>m _ ?_ ?_⟩
    · rw [ait];rfl
    · refine aft ((aen _).mpr fun y hy=>?_)
      obtain ⟨j,_,rfl⟩:=List.mem_map.mp hy
      rfl
  · rw [amz,e1]
  · rw [ahP];exact e2
end
section
variable {P:Program} {w:World} {K:PySem.W.Frag} {mg:Str->Option Value} {base:Heap} {a:Nat->Addr} {d:Nat->FuncData}
abbrev agL:List Str:=["self"]
theorem afV:FnScope agL ["self"] (defScope abi):=⟨rfl,rfl,rfl,by decide +kernel,rfl,by decide +kernel,by decide +kernel⟩
theorem afY (T:Tx P K mg base a d):FnG P w K mg base 1 (a aaX) (d aaX) ["self"] (sp1 fun me Q _=>∃ (n:Nat) (f:Nat->Nat->Rat) (tabs:List D) (nm:List (Key × D)),me=wld K (tabL n f::tabs) nm/\Q (.d (.int n))):=by
  refine acD T.F_World___len__ afV (fun cdv A outer s H E hr hg=>(aaj (aan (aah call_len aa0 (by rfl) T.n_len PySem.boot_len (aaa (aat ix_seq aai (aeu (K:=K) (aae (pv 0))) aaf (fun _ _=>rfl)) aab))))) (fun me Q E h=>?_)
  replace h:∃ (n:Nat) (f:Nat->Nat->Rat) (tabs:List D) (nm:List (Key × D)),me=wld K (tabL n f::tabs) nm/\Q (.d (.int n)):=h
  obtain ⟨n,f,tabs,nm,rfl,h⟩:=h
  refine agN T.cl_World T.na_World_own_tables rfl ?_
  refine aej rfl aiw ?_
  refine acR (ds:=(List.range n).map fun i=>rowX n fun j=>rD (f i j)) rfl ?_
  rw [List.length_map,List.length_range];exact h
abbrev af2:List Str:=["self"]
theorem afy:FnScope af2 ["self"] (defScope aa4):=⟨rfl,rfl,rfl,by decide +kernel,rfl,by decide +kernel,by decide +kernel⟩
theorem afC (T:Tx P K mg base a d):FnG P w K mg base 1 (a aaP) (d aaP) ["self"] (sp1 fun me Q _=>Q (.d (.bl true))):=by
  refine acD T.F_World___bool__ afy (fun cdv A outer s H E hr hg=>(aaj (aan aev))) (fun me Q E h=>?_)
  replace h:Q (.d (.bl true)):=h
  exact h
abbrev NbF (n m:Nat) (F:Nat->Nat->Nat->Rat):Prop:=∀ k i j,k<=m->i < n->j < n->Nb 800 (F k i j)
theorem aiH {n m:Nat} {F:Nat->Nat->Nat->Rat} (n9:n<=9) (m1:m<=1) (h:NbF n m F):∃ p,(D.lst (tabsF n m F)).py=some p/\SeqAt.shaped p=true:=(adD (ahR n9 m1 h)).sh
abbrev ahj:List Str:=["self","other"]
theorem agw:FnScope ahj ["self","other"] (defScope abw):=⟨rfl,rfl,rfl,by decide +kernel,rfl,by decide +kernel,by decide +kernel⟩
theorem agF (T:Tx P K mg base a d):FnG P w K mg base 1 (a abf) (d abf) ["self","other"] (sp2 fun me ot Q _=>∃ (n m:Nat) (F:Nat->Nat->Nat->Rat) (ys:List Str) (pl:Str->Nat),me=wld K (tabsF n m F) (nmD ys pl)/\n<=9/\m<=1/\NbF n m F/\((∃ ds,ot=.tup ds/\Q (.d (.bl false)))\/∃ (n' m':Nat) (F':Nat->Nat->Nat->Rat) (ys':List Str) (pl':Str->Nat),ot=wld K (tabsF n' m' F') (nmD ys' pl')/\n'<=9/\m'<=1/\NbF n' m' F'/\Q (.d (.bl (eqKD (nmD ys pl) (nmD ys' pl') && eqDs (tabsF n m F) (tabsF n' m' F')))))):=by
  refine aem T.F_World___eq__ agw (fun cdv A outer s H E hr hg=>(aaj (aan (afn (aah call_isi (amY (K:=K) (C:=He.ga K "World")) (by rfl) T.n_isinstance (by decide +kernel) (aaa (aae (pv 1)) (aaa (apn (v:=.ref (He.ga K "World")) (d:=.raw (.ref (He.ga K "World"))) (by rfl) T.m_World rfl (fun _=>.raw _)) aab))) (afn (acn (aoD (Nat.lt_of_le_of_lt (Nat.le_add_right _ 64) hr.units)) (amZ (K:=K) (n:=false)) (aeu (K:=K) (aae (pv 0))) (aeu (K:=K) (aae (pv 1))) (nomark _)) (afl (acn (abP hr.units) adn (aeu (K:=K) (aae (pv 0))) (aeu (K:=K) (aae (pv 1))) (nomark _)))))))) (fun me ot Q E h=>?_)
  replace h:∃ (n m:Nat) (F:Nat->Nat->Nat->Rat) (ys:List Str) (pl:Str->Nat),me=wld K (tabsF n m F) (nmD ys pl)/\n<=9/\m<=1/\NbF n m F/\((∃ ds,ot=.tup ds/\Q (.d (.bl false)))\/∃ (n' m':Nat) (F':Nat->Nat->Nat->Rat) (ys':List Str) (pl':Str->Nat),ot=wld K (tabsF n' m' F') (nmD ys' pl')/\n'<=9/\m'<=1/\NbF n' m' F'/\Q (.d (.bl (eqKD (nmD ys pl) (nmD ys' pl') && eqDs (tabsF n m F) (tabsF n' m' F'))))):=h
  obtain ⟨n,m,F,ys,pl,rfl,n9,m1,hb,h⟩:=h
  rcases h with ⟨ds,rfl,h⟩ | ⟨n',m',F',ys',pl',rfl,n9',m1',hb',h⟩
  · refine aoU T.ci_World rfl rfl rfl ?_
    exact brF h
  refine aoT T.ci_World rfl ?_
  refine brT ?_
  refine agN T.cl_World T.na_World_own_names rfl ?_
  refine agN T.cl_World T.na_World_own_names rfl ?_
  refine ap7 (n:=false) rfl rfl (amd pl ys) (amd pl' ys') ?_
  cases e:eqKD (nmD ys pl) (nmD ys' pl') with
  | false=>rw [e] at h;exact brF h
  | true=>
    rw [e] at h
    refine brT ?_
    refine agN T.cl_World T.na_World_own_tables rfl ?_
    refine agN T.cl_World T.na_World_own_tables rfl ?_
    refine al6 rfl rfl (aiH n9 m1 hb) (aiH n9' m1' hb') ?_
    rw [afH]
    exact h
def nmT (ns:List Str):Str:=if ns=[] then "-" else Txt.join " " ns
abbrev ajc:List Str:=["names"]
theorem ahV:FnScope ajc ["names"] (defScope abY):=⟨rfl,rfl,rfl,by decide +kernel,rfl,by decide +kernel,by decide +kernel⟩
theorem ah4 (T:Tx P K mg base a d):FnG P w K mg base 2 (a abD) (d abD) ["names"] (sp1 fun x Q E=>∃ ns:List Str,x=.lst (ns.map .str)/\(∀ z∈ns,WOk z)/\ns.length<=100/\Q (.d (.str (nmT ns)))):=by
  refine acD T.F_names_text ahV (fun cdv A outer s H E hr hg=>(aaj (aan (afm (abA op_gt (aa6 fun _ _ _=>.bl _) (aah call_len aa0 (by rfl) T.n_len PySem.boot_len (aaa (aae (pv 0)) aab)) aaf (nomark _)) (aj0 aa7 (aae (pv 0))) aa7)))) (fun x Q E h=>?_)
  replace h:∃ ns:List Str,x=.lst (ns.map .str)/\(∀ z∈ns,WOk z)/\ns.length<=100/\Q (.d (.str (nmT ns))):=h
  obtain ⟨ns,rfl,hw,hl,h⟩:=h
  unfold nmT at h
  refine acR rfl ?_
  rw [List.length_map]
  refine acS (br (fun z=>?_) (fun z=>?_))
  · have z':=of_decide_eq_true z
    rw [if_neg (fun c=>by rw [c] at z';exact absurd z' (by decide))] at h
    exact ⟨⟨_,rfl⟩,al3 rfl hw (by omega) h⟩
  · have z':=of_decide_eq_false z
    have e:ns=[]:=by
      cases ns with
      | nil=>rfl
      | cons=>exact absurd (by simp only [List.length_cons];omega) z'
    rw [if_pos e] at h
    exact h
abbrev rpW (ys:List Str) (n m:Nat):Str:="World("++nmT ys++", "++toString (n:Int)++" places, "++toString (m:Int)++" layers)"
theorem ajI {ns:List Str} (hw:∀ z∈ns,WOk z) (hl:ns.length<=100):(nmT ns).length<=3100:=by
  unfold nmT
  split
  · decide
  · have:=(ama hw).2;omega
abbrev af0:List Str:=["self"]
theorem afx:FnScope af0 ["self"] (defScope aa2):=⟨rfl,rfl,rfl,by decide +kernel,rfl,by decide +kernel,by decide +kernel⟩
theorem afB (T:Tx P K mg base a d):FnG P w K mg base 4 (a aaO) (d aaO) ["self"] (sp1 fun me Q _=>∃ (n:Nat) (f:Nat->Nat->Rat) (tabs:List D) (ks:List Str) (val:Str->D),me=wld K (tabL n f::tabs) (kvD ks val)/\n<=9/\tabs.length<=1/\ks.length<=9/\(∀ z∈ks,WOk z)/\∀ ys:List Str,ys.Perm ks->sortedS ys=true->Q (.d (.str (rpW ys n (tabs.length + 1))))):=by
  have G_World_layers:FnG P w K mg base 1 (a aap) (d aap) ["self"] (sp1 fun me Q _=>∃ (tabs:List D) (nm:List (Key × D)),me=wld K tabs nm/\Q (.d (.int tabs.length))):=acO T
  have G_World_names:FnG P w K mg base 1 (a aaC) (d aaC) ["self"] (sp1 fun me Q _=>∃ (tabs:List D) (ks:List Str) (val:Str->D),me=wld K tabs (kvD ks val)/\ks.length < 64/\∀ ys:List Str,ys.Perm ks->sortedS ys=true->Q (.own (.lst (ys.map .str)))):=adC T
  have G_World_size:FnG P w K mg base 1 (a abe) (d abe) ["self"] (sp1 fun me Q _=>∃ (n:Nat) (f:Nat->Nat->Rat) (tabs:List D) (nm:List (Key × D)),me=wld K (tabL n f::tabs) nm/\Q (.d (.int n))):=afa T
  have G_names_text:FnG P w K mg base 2 (a abD) (d abD) ["names"] (sp1 fun x Q E=>∃ ns:List Str,x=.lst (ns.map .str)/\(∀ z∈ns,WOk z)/\ns.length<=100/\Q (.d (.str (nmT ns)))):=ah4 T
  refine acD T.F_World___repr__ afx (fun cdv A outer s H E hr hg=>(aaj (aan (apo (.cons aa7 (.cons (amy (aag G_names_text (hr.mono (by decide)) hg (tkOf rfl rfl rfl rfl) (ahq T) (by rfl) T.m_names_text T.F_names_text.kp (aaa (aga (aac (pv 0)) T.cl_World T.me_World_names G_World_names (hr.mono (by decide)) hg (tkOf rfl rfl rfl rfl) (acQ T)) aab))) (.cons aa7 (.cons (amy (ae1 (aac (pv 0)) T.cl_World T.pr_World_size G_World_size (hr.mono (by decide)) hg (afo T))) (.cons aa7 (.cons (amy (ae1 (aac (pv 0)) T.cl_World T.pr_World_layers G_World_layers (hr.mono (by decide)) hg (ace T))) (.cons aa7 .nil))))))))))) (fun me Q E h=>?_)
  replace h:∃ (n:Nat) (f:Nat->Nat->Rat) (tabs:List D) (ks:List Str) (val:Str->D),me=wld K (tabL n f::tabs) (kvD ks val)/\n<=9/\tabs.length<=1/\ks.length<=9/\(∀ z∈ks,WOk z)/\∀ ys:List Str,ys.Perm ks->sortedS ys=true->Q (.d (.str (rpW ys n (tabs.length + 1)))):=h
  obtain ⟨n,f,tabs,ks,val,rfl,n9,t1,kl,hw,h⟩:=h
  have hz:szl=16777216:=rfl
  refine ⟨by rw [aec];decide,?_⟩
  refine ⟨rfl,rfl,rfl,rfl,_,rfl,tabL n f::tabs,ks,val,rfl,by omega,fun ys hp hs=>?_⟩
  have hwy:∀ z∈ys,WOk z:=fun z hz=>hw z (hp.mem_iff.mp hz)
  have yl:ys.length<=9:=by rw [hp.length_eq];exact kl
  have nl:=ajI hwy (by omega)
  have s1:("World(":Str).length=6:=rfl
  have s2:(", ":Str).length=2:=rfl
  have s3:(" places, ":Str).length=9:=rfl
  have s4:(" layers)":Str).length=8:=rfl
  have hn:=afF (b:=20) (i:=(n:Int)) (by omega)
  have hm:=afF (b:=20) (i:=((tabs.length + 1:Nat):Int)) (by omega)
  refine ⟨rfl,rfl,_,rfl,ys,rfl,hwy,by omega,?_⟩
  refine ap6 (by omega) ?_
  refine ⟨by rw [aec,aad];omega,?_⟩
  refine ⟨by rw [aec,aad,aad];omega,?_⟩
  refine ⟨rfl,_,rfl,n,f,tabs,_,rfl,?_⟩
  refine anY (lg20 (by omega)) ?_
  refine ⟨by rw [aec,aad,aad,aad];omega,?_⟩
  refine ⟨by rw [aec,aad,aad,aad,aad];omega,?_⟩
  refine ⟨rfl,_,rfl,tabL n f::tabs,_,rfl,?_⟩
  refine anY (lg20 (by rw [List.length_cons];omega)) ?_
  rw [List.length_cons]
  refine ⟨by rw [aec,aad,aad,aad,aad,aad];omega,?_⟩
  refine ⟨by rw [aec,aad,aad,aad,aad,aad,aad];omega,?_⟩
  rw [aec]
  exact h ys hp hs
abbrev aje:List Str:=["_law_src","_law_things","_law_found","_law_thing"]
theorem adN:FnScope aje ["_law_src","_law_things"] (defScope ab0):=⟨rfl,rfl,rfl,by decide +kernel,rfl,by decide +kernel,by decide +kernel⟩
theorem ae9 (T:Tx P K mg base a d):FnG P w K mg base 2 (a abd) (d abd) ["_law_src","_law_things"] (fun args Q E=>∃ x:D,args=[.src,.d x]/\(∃ ds:List D,x=.lst ds/\ds.length<=1000/\∀ es:List D,es.Perm ds->Q (.d (.lst es)))):=by
  have G__law_draw:FnG P w K mg base 1 (a aar) (d aar) ["_law_src","_law_many"] (spDraw):=acz T
  refine ad3 T.F__law_mixed adN (by rintro _ Q E ⟨x,rfl,h⟩;rfl) (fun args Q E h=>aib (by obtain ⟨x,rfl,h⟩:=h;intro x hx;simp only [List.mem_cons,List.not_mem_nil,or_false] at hx;rcases hx with rfl | rfl<;>first | exact .inl (.inl ⟨_,rfl⟩) | exact .inr rfl | exact .inl (by assumption))) (fun cdv A outer s H E hr hg=>(aak (abV (i:=2) adN.nd rfl (Or.inl rfl) (abt aab))
      (aak (aeo (passes_of rfl) rfl (acE (aac (pv 1))) (aaw (i:=3) adN.nd rfl (Or.inl rfl)) (aaj (amp (pv 2) (aag G__law_draw (hr.mono (by decide)) hg (tkOf rfl rfl rfl rfl) (aav T) (by rfl) T.m__law_draw T.F__law_draw.kp (aaa (aac (pv 0)) (aaa (adb (aah call_len aa0 (by rfl) T.n_len PySem.boot_len (aaa (aae (pv 2)) aab)) aaf) aab))) (aac (pv 3)))))
      (aaj (aan (aac (pv 2))))))) (fun args Q E h=>?_)
  obtain ⟨x,rfl,h⟩:=h
  obtain ⟨ds,rfl,hl,h⟩:=h
  have hz:szl=16777216:=rfl
  refine aeB [] (fun Q hQ=>acG rfl rfl hQ) ?_
  refine aaT (fun s=>∃ (es:List D) (a3:Option DV),es.Perm ds/\s=[some .src,some (.d (.lst ds)),some (.own (.lst es)),a3]) (fun N hN=>?_) (fun s hs=>?_)
  · refine abx ?_
    refine adX (fun r s=>∃ (dn es:List D) (a3:Option DV),ds=dn++r/\es.Perm dn/\s=[some .src,some (.d (.lst ds)),some (.own (.lst es)),a3]) (fun N1 d r s hN1 hs=>?_) (fun s hs=>?_) _ _ ⟨[],[],_,rfl,.refl _,rfl⟩
    · obtain ⟨dn,es,a3,e1,hp,rfl⟩:=hs
      have le:es.length=dn.length:=hp.length_eq
      have ld:dn.length<=1000:=by
        have:=congrArg List.length e1
        rw [List.length_append] at this
        omega
      refine ao4 es (fun k=>k<=es.length) d (fun Q hQ=>?_) (fun Q hQ=>hQ) (fun k hk=>?_) (fun k hk=>by omega) (by omega)
      · refine acR rfl (afg ?_)
        refine ⟨rfl,rfl,_,rfl,by omega,by omega,fun m h0 h1=>?_⟩
        have:=hQ m.toNat (by omega)
        rw [Int.toNat_of_nonneg h0] at this
        exact this
      · refine hN1 _ ⟨dn++[d],insD es k d,some (.d d),by rw [e1];simp,?_,rfl⟩
        unfold insD
        have p1:(es.take k++[d]++es.drop k).Perm (d::(es.take k++es.drop k)):=by
          rw [List.append_assoc]
          exact List.perm_middle
        rw [List.take_append_drop] at p1
        exact p1.trans ((List.Perm.cons d hp).trans (List.perm_append_comm (l₁:=[d]) (l₂:=dn)))
    · obtain ⟨dn,es,a3,e1,hp,rfl⟩:=hs
      rw [List.append_nil] at e1
      subst e1
      exact hN _ ⟨es,a3,hp,rfl⟩
  obtain ⟨es,a3,hp,rfl⟩:=hs
  exact h es hp
abbrev akZ:List Str:=["_law_top","_law_bottom","_law_one","_law_other"]
theorem aeR:FnScope akZ ["_law_top","_law_bottom"] (defScope acZ):=⟨rfl,rfl,rfl,by decide +kernel,rfl,by decide +kernel,by decide +kernel⟩
theorem agE (T:Tx P K mg base a d):FnG P w K mg base 1 (a abT) (d abT) ["_law_top","_law_bottom"] (sp2 fun x y Q _=>∃ n m:Int,x=.int n/\y=.int m/\0 < m/\m.natAbs < 2 ^ 8000/\Q (.d (rD (Rat.divInt n m)))):=by
  refine aem T.F__law_low aeR (fun cdv A outer s H E hr hg=>(aak (an6 (i:=2) (j:=3) rfl aeR.nd rfl rfl (by decide) rfl rfl (aaa (aah call_abs aon (by rfl) T.n_abs (by decide +kernel) (aaa (aae (pv 0)) aab)) (aaa (aac (pv 1)) aab)) (by rfl))
      (aak (ant (passes_of rfl) (abA op_gt (aa6 fun _ _ _=>.bl _) (aae (pv 3)) aaf (nomark _)) (aaj (an6 (i:=2) (j:=3) rfl aeR.nd rfl rfl (by decide) rfl rfl (aaa (aac (pv 3)) (aaa (aqt (adY call_int1 aoj (by rfl) T.n_int (by decide +kernel) (aaa (aae (pv 2)) aab)) (aac (pv 3))) aab)) (by rfl))))
      (aaj (aan (acT (aaa (aip (aac (pv 0)) (aac (pv 2))) (aaa (aip (aac (pv 1)) (aac (pv 2))) aab)))))))) (fun x y Q E h=>?_)
  replace h:∃ n m:Int,x=.int n/\y=.int m/\0 < m/\m.natAbs < 2 ^ 8000/\Q (.d (rD (Rat.divInt n m))):=h
  obtain ⟨n,m,rfl,rfl,h1,h2,h⟩:=h
  have ea:(if n < 0 then -n else n)=((n.natAbs:Nat):Int):=by split<;>omega
  refine aoB (.int (n.natAbs:Nat)) (.int m) (s':=[some (.d (.int n)),some (.d (.int m)),none,none]) (fun Q hQ=>?_) ?_
  · refine l_abs ?_
    rw [ea]
    exact hQ
  refine aaT (fun s=>s=[some (.d (.int n)),some (.d (.int m)),some (.d (.int (gcI n m))),some (.d (.int 0))]) (fun N hN=>?_) (fun s hs=>?_)
  · refine ⟨fun k s=>∃ x:Nat,s=[some (.d (.int n)),some (.d (.int m)),some (.d (.int (x:Int))),some (.d (.int (k:Int)))]/\Nat.gcd x k=Nat.gcd n.natAbs m.natAbs,⟨m.natAbs,n.natAbs,?_,rfl⟩,?_⟩
    · have:((m.natAbs:Nat):Int)=m:=by omega
      rw [this];rfl
    · rintro k s ⟨x,rfl,hg⟩
      refine acS ?_
      refine br (fun hk=>?_) (fun hk=>?_)
      · have hk':(0:Int) < (k:Int):=of_decide_eq_true hk
        refine l_int ?_
        refine ahI hk' ?_
        refine ⟨x % k,Nat.mod_lt _ (by omega),k,?_,?_⟩
        · show [_,_,_,some (DV.d (.int ((x:Int) % (k:Int))))]=_
          rw [<- Int.natCast_emod]
        · rw [<- hg,Nat.gcd_comm x k,Nat.gcd_rec k x,Nat.gcd_comm]
      · have hk':¬ (0:Int) < (k:Int):=of_decide_eq_false hk
        have k0:k=0:=by omega
        subst k0
        refine hN _ ?_
        rw [Nat.gcd_zero_right] at hg
        rw [hg];rfl
  · subst hs
    refine ahI (ail h1 h2) ?_
    refine ahI (ail (n:=n) h1 h2) ?_
    rw [alA h1] at h
    exact aeG rfl rfl h
abbrev ajN:List Str:=["_law_one","_law_other"]
theorem aiQ:FnScope ajN ["_law_one","_law_other"] (defScope acv):=⟨rfl,rfl,rfl,by decide +kernel,rfl,by decide +kernel,by decide +kernel⟩
theorem ai6 (T:Tx P K mg base a d):FnG P w K mg base 2 (a ab9) (d ab9) ["_law_one","_law_other"] (sp2 fun x y Q _=>∃ p q:Rat,x=rD p/\y=rD q/\Nb 3900 p/\Nb 3900 q/\Q (.d (rD (p + q)))):=by
  have G__law_low:FnG P w K mg base 1 (a abT) (d abT) ["_law_top","_law_bottom"] (sp2 fun x y Q _=>∃ n m:Int,x=.int n/\y=.int m/\0 < m/\m.natAbs < 2 ^ 8000/\Q (.d (rD (Rat.divInt n m)))):=agE T
  refine aem T.F__law_plus aiQ (fun cdv A outer s H E hr hg=>(aaj (aan (aag G__law_low (hr.mono (by decide)) hg (tkOf rfl rfl rfl rfl) (afT T) (by rfl) T.m__law_low T.F__law_low.kp (aaa (adb (aes (aat ix_seq aai (aae (pv 0)) aaf (fun _ _=>rfl)) (aat ix_seq aai (aae (pv 1)) aaf (fun _ _=>rfl))) (aes (aat ix_seq aai (aae (pv 1)) aaf (fun _ _=>rfl)) (aat ix_seq aai (aae (pv 0)) aaf (fun _ _=>rfl)))) (aaa (aes (aat ix_seq aai (aae (pv 0)) aaf (fun _ _=>rfl)) (aat ix_seq aai (aae (pv 1)) aaf (fun _ _=>rfl))) aab)))))) (fun x y Q E h=>?_)
  replace h:∃ p q:Rat,x=rD p/\y=rD q/\Nb 3900 p/\Nb 3900 q/\Q (.d (rD (p + q))):=h
  obtain ⟨p,q,rfl,rfl,hp,hq,h⟩:=h
  refine abb rfl (abb rfl (aeO (mulW hp.n (nbd hq) (by decide)) ?_))
  refine abb rfl (abb rfl (aeO (mulW hq.n (nbd hp) (by decide)) (afg ?_)))
  refine abb rfl (abb rfl (aeO (mulW (nbd hp) (nbd hq) (by decide)) ?_))
  refine ⟨rfl,rfl,_,_,rfl,_,_,rfl,rfl,Int.mul_pos (den_pos p) (den_pos q),akE hp hq,?_⟩
  rw [ahZ];exact h
abbrev ajO:List Str:=["_law_one","_law_other"]
theorem aiR:FnScope ajO ["_law_one","_law_other"] (defScope acw):=⟨rfl,rfl,rfl,by decide +kernel,rfl,by decide +kernel,by decide +kernel⟩
theorem ai8 (T:Tx P K mg base a d):FnG P w K mg base 1 (a acb) (d acb) ["_law_one","_law_other"] (sp2 fun x y Q _=>∃ p q:Rat,x=rD p/\y=rD q/\Nb 3900 p/\Nb 3900 q/\Q (.d (.bl (decide (p < q))))):=by
  refine aem T.F__law_less aiR (fun cdv A outer s H E hr hg=>(aaj (aan (acn op_lt (aa6 fun _ _ _=>.bl _) (aes (aat ix_seq aai (aae (pv 0)) aaf (fun _ _=>rfl)) (aat ix_seq aai (aae (pv 1)) aaf (fun _ _=>rfl))) (aes (aat ix_seq aai (aae (pv 1)) aaf (fun _ _=>rfl)) (aat ix_seq aai (aae (pv 0)) aaf (fun _ _=>rfl))) (nomark _))))) (fun x y Q E h=>?_)
  replace h:∃ p q:Rat,x=rD p/\y=rD q/\Nb 3900 p/\Nb 3900 q/\Q (.d (.bl (decide (p < q)))):=h
  obtain ⟨p,q,rfl,rfl,hp,hq,h⟩:=h
  refine abb rfl (abb rfl (aeO (mulW hp.n (nbd hq) (by decide)) ?_))
  refine abb rfl (abb rfl (aeO (mulW hq.n (nbd hp) (by decide)) ?_))
  refine acS ?_
  rw [anN];exact h
abbrev ajf:List Str:=["_law_pairs","_law_found","_law_pair"]
theorem adi:FnScope ajf ["_law_pairs"] (defScope ab2):=⟨rfl,rfl,rfl,by decide +kernel,rfl,by decide +kernel,by decide +kernel⟩
theorem ah8 (T:Tx P K mg base a d):FnG P w K mg base 2 (a abH) (d abH) ["_law_pairs"] (sp1 fun x Q _=>∃ p q:Rat,x=.lst [rD p,rD q]/\Nb 3900 p/\Nb 3900 q/\Q (.d (rD (leastQ p q)))):=by
  have G__law_less:FnG P w K mg base 1 (a acb) (d acb) ["_law_one","_law_other"] (sp2 fun x y Q _=>∃ p q:Rat,x=rD p/\y=rD q/\Nb 3900 p/\Nb 3900 q/\Q (.d (.bl (decide (p < q))))):=ai8 T
  refine acD T.F__law_least adi (fun cdv A outer s H E hr hg=>(aak (abV (i:=1) adi.nd rfl (Or.inl rfl) (aat ix_seq aai (aae (pv 0)) aaf (fun _ _=>rfl)))
      (aak (aeo (passes_of rfl) rfl (acE (aac (pv 0))) (aaw (i:=2) adi.nd rfl (Or.inl rfl)) (aaj (abV (i:=1) adi.nd rfl (Or.inl rfl) (afm (ada (aag G__law_less (hr.mono (by decide)) hg (tkOf rfl rfl rfl rfl) (aiD T) (by rfl) T.m__law_less T.F__law_less.kp (aaa (aac (pv 2)) (aaa (aac (pv 1)) aab)))) (aac (pv 2)) (aac (pv 1))))))
      (aaj (aan (aac (pv 1))))))) (fun x Q E h=>?_)
  replace h:∃ p q:Rat,x=.lst [rD p,rD q]/\Nb 3900 p/\Nb 3900 q/\Q (.d (rD (leastQ p q))):=h
  obtain ⟨p,q,rfl,hp,hq,h⟩:=h
  refine ags (rD p) (fun Q hQ=>aej (ds:=[rD p,rD q]) rfl rfl hQ) ?_
  refine aaT (fun s=>∃ a2,s=[some (.d (.lst [rD p,rD q])),some (.d (rD (leastQ p q))),a2]) (fun N hN=>?_) (fun s hs=>?_)
  · refine abx ?_
    show dForL _ _ _ [rD p,rD q] _
    rw [ael]
    refine ⟨rfl,rfl,_,_,rfl,p,p,rfl,rfl,hp,hp,?_⟩
    rw [decide_eq_false (by grind)]
    refine abo (brF ?_)
    show dForL _ _ _ [rD q] _
    rw [ael]
    refine ⟨rfl,rfl,_,_,rfl,q,p,rfl,rfl,hq,hp,?_⟩
    refine abo (br (fun z=>?_) (fun z=>?_))
    · have e:leastQ p q=q:=if_pos (of_decide_eq_true z)
      show dForL _ _ _ [] _
      rw [afj]
      exact hN _ ⟨_,by rw [e];rfl⟩
    · have e:leastQ p q=p:=if_neg (of_decide_eq_false z)
      show dForL _ _ _ [] _
      rw [afj]
      exact hN _ ⟨_,by rw [e];rfl⟩
  obtain ⟨a2,rfl⟩:=hs
  exact h
abbrev aei:List Str:=["_law_src","_law_many","_law_letters","_law_stem","_law_at","_law_letter","_law_k"]
theorem abk:FnScope aei ["_law_src","_law_many"] (defScope abl):=⟨rfl,rfl,rfl,by decide +kernel,rfl,by decide +kernel,by decide +kernel⟩
theorem ah7 (T:Tx P K mg base a d):FnG P w K mg base 3 (a abG) (d abG) ["_law_src","_law_many"] (fun args Q E=>∃ x:D,args=[.src,.d x]/\(∃ m:Nat,x=.int m/\m<=26/\∀ ns:List Str,ns.length=m->ns.Nodup->(∀ z∈ns,nameOk z=true)->Q (.own (.lst (ns.map .str))))):=by
  have G__law_draw:FnG P w K mg base 1 (a aar) (d aar) ["_law_src","_law_many"] (spDraw):=acz T
  have G__law_mixed:FnG P w K mg base 2 (a abd) (d abd) ["_law_src","_law_things"] (fun args Q E=>∃ x:D,args=[.src,.d x]/\(∃ ds:List D,x=.lst ds/\ds.length<=1000/\∀ es:List D,es.Perm ds->Q (.d (.lst es)))):=ae9 T
  have G__law_of:FnG P w K mg base 2 (a acm) (d acm) ["_law_src","_law_some"] (spOf):=ahE T
  refine ad3 T.F__law_names abk (by rintro _ Q E ⟨x,rfl,h⟩;rfl) (fun args Q E h=>aib (by obtain ⟨x,rfl,h⟩:=h;intro x hx;simp only [List.mem_cons,List.not_mem_nil,or_false] at hx;rcases hx with rfl | rfl<;>first | exact .inl (.inl ⟨_,rfl⟩) | exact .inr rfl | exact .inl (by assumption))) (fun cdv A outer s H E hr hg=>(aak (abV (i:=2) abk.nd rfl (Or.inl rfl) (aag G__law_mixed (hr.mono (by decide)) hg (tkOf rfl rfl rfl rfl) (aeP T) (by rfl) T.m__law_mixed T.F__law_mixed.kp (aaa (aac (pv 0)) (aaa (adY (ak7 rfl) alk (by rfl) T.n_list (by decide +kernel) (aaa aa7 aab)) aab))))
      (aak (abV (i:=3) abk.nd rfl (Or.inr rfl) (aj0 aa7 (aet (own:=[("_law_k",6)]) rfl abk.nd (acy (by rfl) T.n_range (aaa (aag G__law_draw (hr.mono (by decide)) hg (tkOf rfl rfl rfl rfl) (aav T) (by rfl) T.m__law_draw T.F__law_draw.kp (aaa (aac (pv 0)) (aaa aaf aab))) aab)) (blkOk_by (own:=[("_law_k",6)]) (N:=aei) (sc:=(defScope abl)) (by decide +kernel)) (fun _ _ _ _ _=>(aaw (i:=6) abk.nd rfl (Or.inl rfl))) (fun _ _ _ _ _=>aa5) (fun _ _ _ _ _=>(aag G__law_of (hr.mono (by decide)) hg adl (ae3 T) (by rfl) T.m__law_of T.F__law_of.kp (aaa (aac (pv 0)) (aaa aa7 aab)))))))
      (aak (abV (i:=4) abk.nd rfl (Or.inr rfl) (aag G__law_draw (hr.mono (by decide)) hg (tkOf rfl rfl rfl rfl) (aav T) (by rfl) T.m__law_draw T.F__law_draw.kp (aaa (aac (pv 0)) (aaa (adb (aah call_len aa0 (by rfl) T.n_len PySem.boot_len (aaa (aae (pv 3)) aab)) aaf) aab))))
      (aaj (aan (aet (own:=[("_law_letter",5)]) rfl abk.nd (acE (ajo (aae (pv 2)) aeq (aep (aac (pv 1))))) (blkOk_by (own:=[("_law_letter",5)]) (N:=aei) (sc:=(defScope abl)) (by decide +kernel)) (fun _ _ _ _ _=>(aaw (i:=5) abk.nd rfl (Or.inl rfl))) (fun _ _ _ _ _=>aa5) (fun _ _ _ _ _=>(adb (adb (ajo (aae (pv 3)) aeq (aep (aac (pv 4)))) (aae (pv 5))) (ajo (aae (pv 3)) (aep (aac (pv 4))) aeq)))))))))) (fun args Q E h=>?_)
  obtain ⟨x,rfl,h⟩:=h
  obtain ⟨m,rfl,hm,h⟩:=h
  have hz:szl=16777216:=rfl
  have al:∀ c∈("abcdefghijklmnopqrstuvwxyz":Str).cps.toList,low c=true:=fun c hc=>decide_eq_true hc
  have sinj:∀ a b:Nat,sgD a=sgD b->a=b:=fun a b e=>by
    have:=anD (a:=[a]) (b:=[b]) (by injection e)
    simpa using this
  refine adL (fun d=>∃ cs:List Nat,d=.lst (cs.map sgD)/\cs.length=26/\cs.Nodup/\∀ c∈cs,low c=true) (fun Q hQ=>?_) (fun x hx=>?_)
  · refine aoQ (by decide) ?_
    refine ⟨rfl,rfl,_,rfl,_,rfl,by decide +kernel,fun es hp=>hQ _ ?_⟩
    obtain ⟨cs,rfl,hc⟩:=afp (f:=sgD) (P:=fun c=>low c=true) (es:=es) fun x hx=>by
      obtain ⟨c,hc,rfl⟩:=aji (hp.mem_iff.mp hx)
      exact ⟨c,rfl,al c hc⟩
    refine ⟨cs,rfl,?_,ahF (f:=sgD) (hp.nodup_iff.mpr (aja (f:=sgD) sinj (by decide +kernel))),hc⟩
    have:=hp.length_eq
    rw [List.length_map,aiJ] at this
    rw [this];decide +kernel
  obtain ⟨ls,rfl,ll,lnd,lc⟩:=hx
  refine adL (fun d=>∃ cs:List Nat,d=.str (wd cs)/\cs.length<=4/\∀ c∈cs,low c=true) (fun Q hQ=>?_) (fun x hx=>?_)
  · refine ⟨⟨_,rfl⟩,?_⟩
    refine ⟨rfl,rfl,_,rfl,by decide,by decide,fun k h0 h1=>?_⟩
    refine ads (by omega) (by omega) ?_
    refine aoL (fun x=>∃ c,x=sgD c/\low c=true) _ (by rw [acB];omega) (fun d hd M A hM=>?_) (fun xs hl hR=>?_)
    · refine brT ?_
      exact ⟨rfl,rfl,_,rfl,(fun o z=>by cases z),(by decide +kernel),(by decide +kernel),fun c hc=>hM _ ⟨c,rfl,al c hc⟩⟩
    · obtain ⟨cs,rfl,hc⟩:=afp hR
      rw [List.length_map,acB] at hl
      exact aoR rfl (by omega) (hQ _ ⟨cs,rfl,by omega,hc⟩)
  obtain ⟨cs,rfl,cl,cc⟩:=hx
  have wl:(wd cs).length=cs.length:=ahy cs
  refine adL (fun d=>∃ k:Nat,d=.int (k:Int)/\k<=cs.length) (fun Q hQ=>?_) (fun x hx=>?_)
  · refine al0 (by omega) (afg ?_)
    refine ⟨rfl,rfl,_,rfl,by omega,by omega,fun k h0 h1=>hQ _ ⟨k.toNat,by rw [Int.toNat_of_nonneg h0],by omega⟩⟩
  obtain ⟨k,rfl,hk⟩:=hx
  refine alY (ds:=ls.map sgD) rfl ?_
  rw [aew,<- List.map_take]
  refine abx ?_
  have tl:(ls.take m).length=m:=by rw [List.length_take];omega
  refine adr (fun d=>match d with | .str y=>.str (wd (cs.take k)++y++wd (cs.drop k)) | _=>.non) _ (by rw [List.length_map];omega) (fun d hd M A mm=>?_) ?_
  · obtain ⟨c,hc,rfl⟩:=List.mem_map.mp hd
    refine brT ?_
    have w1:(wd (cs.take k)).length<=4:=by rw [ahy,List.length_take];omega
    have w2:(wd (cs.drop k)).length<=4:=by rw [ahy,List.length_drop];omega
    have w3:(sgS c).length=1:=rfl
    refine ap0 (by omega) ?_
    rw [amF hk]
    refine adx (by omega) ?_
    refine ap0 (by omega) ?_
    rw [amG hk]
    refine adx (by rw [aad];omega) ?_
    exact mm
  · have e:((ls.take m).map sgD).map (fun d=>match d with | .str y=>D.str (wd (cs.take k)++y++wd (cs.drop k)) | _=>.non)=((ls.take m).map fun c=>wd (cs.take k++[c]++cs.drop k)).map D.str:=by
      rw [List.map_map,List.map_map]
      refine List.map_congr_left fun c _=>?_
      show D.str (wd (cs.take k)++wd [c]++wd (cs.drop k))=D.str _
      rw [anE,anE]
    rw [e]
    refine h _ (by rw [List.length_map];exact tl) (aja (fun a b q=>?_) (lnd.sublist (List.take_sublist _ _))) (fun z hz2=>?_)
    · have:=anD q
      rw [List.append_assoc,List.append_assoc] at this
      have:=List.append_cancel_left this
      simpa using this
    · obtain ⟨c,hc,rfl⟩:=List.mem_map.mp hz2
      refine aoH (by simp;omega) (by rw [List.length_append,List.length_append,List.length_take,List.length_drop];simp;omega) (fun x hx=>?_)
      rcases List.mem_append.mp hx with hx | hx
      · rcases List.mem_append.mp hx with hx | hx
        · exact cc x (List.mem_of_mem_take hx)
        · rw [List.mem_singleton.mp hx];exact lc c (List.mem_of_mem_take hc)
      · exact cc x (List.mem_of_mem_drop hx)
end
section
variable {P:Program} {w:World} {K:PySem.W.Frag} {mg:Str->Option Value} {base:Heap} {a:Nat->Addr} {d:Nat->FuncData}
abbrev aie:List Str:=["_law_src","_law_way"]
theorem aeL:FnScope aie ["_law_src"] (defScope abK):=⟨rfl,rfl,rfl,by decide +kernel,rfl,by decide +kernel,by decide +kernel⟩
theorem ahf (T:Tx P K mg base a d):FnG P w K mg base 2 (a abq) (d abq) ["_law_src"] (sr0 fun Q _=>∀ q:Rat,Ln 60 60000000 q->Q (.d (rD q))):=by
  have G__law_draw:FnG P w K mg base 1 (a aar) (d aar) ["_law_src","_law_many"] (spDraw):=acz T
  have G__law_low:FnG P w K mg base 1 (a abT) (d abT) ["_law_top","_law_bottom"] (sp2 fun x y Q _=>∃ n m:Int,x=.int n/\y=.int m/\0 < m/\m.natAbs < 2 ^ 8000/\Q (.d (rD (Rat.divInt n m)))):=agE T
  refine aqg T.F__law_length aeL (fun cdv A outer s H E hr hg=>(aak (abV (i:=1) aeL.nd rfl (Or.inl rfl) (aag G__law_draw (hr.mono (by decide)) hg (tkOf rfl rfl rfl rfl) (aav T) (by rfl) T.m__law_draw T.F__law_draw.kp (aaa (aac (pv 0)) (aaa aaf aab))))
      (aak (adt (abA op_lt (aa6 fun _ _ _=>.bl _) (aae (pv 1)) aaf (nomark _)) (aaj (aan (acT (aaa (aag G__law_draw (hr.mono (by decide)) hg (tkOf rfl rfl rfl rfl) (aav T) (by rfl) T.m__law_draw T.F__law_draw.kp (aaa (aac (pv 0)) (aaa aaf aab))) (aaa aaf aab))))) ack)
      (aak (adt (abA op_lt (aa6 fun _ _ _=>.bl _) (aae (pv 1)) aaf (nomark _)) (aaj (aan (aag G__law_low (hr.mono (by decide)) hg (tkOf rfl rfl rfl rfl) (afT T) (by rfl) T.m__law_low T.F__law_low.kp (aaa (aag G__law_draw (hr.mono (by decide)) hg (tkOf rfl rfl rfl rfl) (aav T) (by rfl) T.m__law_draw T.F__law_draw.kp (aaa (aac (pv 0)) (aaa aaf aab))) (aaa (adb aaf (aag G__law_draw (hr.mono (by decide)) hg (tkOf rfl rfl rfl rfl) (aav T) (by rfl) T.m__law_draw T.F__law_draw.kp (aaa (aac (pv 0)) (aaa aaf aab)))) aab))))) ack)
      (aaj (aan (acT (aaa (aag G__law_draw (hr.mono (by decide)) hg (tkOf rfl rfl rfl rfl) (aav T) (by rfl) T.m__law_draw T.F__law_draw.kp (aaa (aac (pv 0)) (aaa (aqr aaf aaf) aab))) (aaa aaf aab))))))))) (fun Q E h=>?_)
  replace h:∀ q:Rat,Ln 60 60000000 q->Q (.d (rD q)):=h
  have int:∀ n:Int,0<=n->n<=1000000->Q (.d (rt n 1)):=fun n h0 hn=>h (n:Rat) (apW h0 hn)
  refine adL (fun x=>∃ n:Int,x=.int n) (fun Q hQ=>⟨rfl,rfl,_,rfl,by decide,by decide,fun n _ _=>hQ _ ⟨n,rfl⟩⟩) (fun x hx=>?_)
  obtain ⟨n,rfl⟩:=hx
  refine acS ?_
  refine br (fun _=>?_) (fun _=>?_)
  · refine ⟨rfl,rfl,_,rfl,by decide,by decide,fun m h0 h1=>?_⟩
    exact aeG rfl rfl (int _ h0 (by omega))
  · refine acS ?_
    refine br (fun _=>?_) (fun _=>?_)
    · refine ⟨rfl,rfl,_,rfl,by decide,by decide,fun m h0 h1=>?_⟩
      refine ⟨rfl,rfl,_,rfl,by decide,by decide,fun k k0 k1=>?_⟩
      refine afg ?_
      refine ⟨rfl,rfl,_,_,rfl,m,1 + k,rfl,rfl,by omega,?_,?_⟩
      · exact Nat.lt_of_lt_of_le (show (1 + k).natAbs < 2 ^ 40 by omega) (Nat.pow_le_pow_right (by decide) (by decide))
      · exact h _ ((aoK (B:=13) h0 (by omega) (by omega) (by omega)).mono (by decide))
    · refine ahI ⟨by decide,by decide,by decide⟩ ?_
      refine ⟨rfl,rfl,_,rfl,by decide,by decide,fun m h0 h1=>?_⟩
      have h1':m < 1000000:=h1
      exact aeG rfl rfl (int _ h0 (by omega))
abbrev ajP:List Str:=["_law_src","_law_one"]
theorem aiS:FnScope ajP ["_law_src","_law_one"] (defScope acx):=⟨rfl,rfl,rfl,by decide +kernel,rfl,by decide +kernel,by decide +kernel⟩
theorem ai9 (T:Tx P K mg base a d):FnG P w K mg base 2 (a acd) (d acd) ["_law_src","_law_one"] (sr1 fun x Q _=>∃ q:Rat,x=rD q/\∀ v:Vl,v.q=q->(v.bare=true->rD v.q=rt v.q.num 1)->Q (.d v.d)):=by
  have G__law_draw:FnG P w K mg base 1 (a aar) (d aar) ["_law_src","_law_many"] (spDraw):=acz T
  refine aqf T.F__law_bare aiS (fun cdv A outer s H E hr hg=>(aaj (aan (afm (DW.dt (amn (abA (abP hr.units) adn (aat ix_seq aai (aae (pv 1)) aaf (fun _ _=>rfl)) aaf (nomark _)) (ajZ (abA (abP hr.units) adn (aag G__law_draw (hr.mono (by decide)) hg (tkOf rfl rfl rfl rfl) (aav T) (by rfl) T.m__law_draw T.F__law_draw.kp (aaa (aac (pv 0)) (aaa aaf aab))) aaf (nomark _))))) (aat ix_seq aai (aae (pv 1)) aaf (fun _ _=>rfl)) (aac (pv 1)))))) (fun x Q E h=>?_)
  replace h:∃ q:Rat,x=rD q/\∀ v:Vl,v.q=q->(v.bare=true->rD v.q=rt v.q.num 1)->Q (.d v.d):=h
  obtain ⟨q,rfl,h⟩:=h
  have h1:Q (.d (rD q)):=h ⟨q,false⟩ rfl (fun e=>by cases e)
  have h2:rD q=rt q.num 1->Q (.d (.int q.num)):=fun e=>h ⟨q,true⟩ rfl (fun _=>e)
  refine abb rfl ?_
  refine aff ?_
  refine br (fun z=>?_) (fun _=>?_)
  · have e:((q.den:Nat):Int)=1:=of_decide_eq_true z
    refine ⟨rfl,rfl,_,rfl,by decide,by decide,fun k _ _=>?_⟩
    refine aff ?_
    refine br (fun _=>?_) (fun _=>h1)
    refine abb rfl ?_
    exact h2 (by unfold rD;rw [e])
  · exact brF h1
abbrev adT:List Str:=["_law_rows","_law_size","_law_by","_law_one","_law_other"]
theorem abc:FnScope adT ["_law_rows"] (defScope abm):=⟨rfl,rfl,rfl,by decide +kernel,rfl,by decide +kernel,by decide +kernel⟩
theorem ahh (T:Tx P K mg base a d):FnG P w K mg base 3 (a abr) (d abr) ["_law_rows"] (sp1 fun x Q _=>∃ (n:Nat) (f:Nat->Nat->Rat),x=tabD n f/\n<=5/\(∀ i j,i < n->j < n->Nb 40 (f i j))/\Q (.d (tabD n (closeF f n)))):=by
  have G__law_least:FnG P w K mg base 2 (a abH) (d abH) ["_law_pairs"] (sp1 fun x Q _=>∃ p q:Rat,x=.lst [rD p,rD q]/\Nb 3900 p/\Nb 3900 q/\Q (.d (rD (leastQ p q)))):=ah8 T
  have G__law_plus:FnG P w K mg base 2 (a ab9) (d ab9) ["_law_one","_law_other"] (sp2 fun x y Q _=>∃ p q:Rat,x=rD p/\y=rD q/\Nb 3900 p/\Nb 3900 q/\Q (.d (rD (p + q)))):=ai6 T
  refine acD T.F__law_closed abc (fun cdv A outer s H E hr hg=>(aak (abV (i:=1) abc.nd rfl (Or.inr rfl) (aah call_len aa0 (by rfl) T.n_len PySem.boot_len (aaa (aae (pv 0)) aab)))
      (aak (aeo (passes_of rfl) rfl (acy (by rfl) T.n_range (aaa (aac (pv 1)) aab)) (aaw (i:=2) abc.nd rfl (Or.inr rfl)) (aaj (aqp (i:=0) (abV (i:=0) abc.nd rfl (Or.inr rfl) (aet (own:=[("_law_one",3)]) rfl abc.nd (acy (by rfl) T.n_range (aaa (aac (pv 1)) aab)) (blkOk_by (own:=[("_law_one",3)]) (N:=adT) (sc:=(defScope abm)) (by decide +kernel)) (fun _ _ _ _ _=>(aaw (i:=3) abc.nd rfl (Or.inr rfl))) (fun _ _ _ _ _=>aa5) (fun _ _ _ _ _=>(aet (own:=[("_law_other",4)]) rfl abc.nd (acy (by rfl) T.n_range (aaa (aac (pv 1)) aab)) (blkOk_by (own:=[("_law_other",4)]) (N:=adT) (sc:=_) (by kernel_rfl)) (fun _ _ _ _ _=>(aaw (i:=4) abc.nd rfl (Or.inl rfl))) (fun _ _ _ _ _=>aa5) (fun _ _ _ _ _=>(aag G__law_least (hr.mono (by decide)) hg adl (ahu T) (by rfl) T.m__law_least T.F__law_least.kp (aaa (abt (aaa (aat ix_seq aai (aat ix_seq aai (aae (pv 0)) (aac (pv 3)) (fun _ _=>rfl)) (aac (pv 4)) (fun _ _=>rfl)) (aaa (aag G__law_plus (hr.mono (by decide)) hg adl (aiC T) (by rfl) T.m__law_plus T.F__law_plus.kp (aaa (aat ix_seq aai (aat ix_seq aai (aae (pv 0)) (aac (pv 3)) (fun _ _=>rfl)) (aac (pv 2)) (fun _ _=>rfl)) (aaa (aat ix_seq aai (aat ix_seq aai (aae (pv 0)) (aac (pv 2)) (fun _ _=>rfl)) (aac (pv 4)) (fun _ _=>rfl)) aab))) aab))) aab))))))))))
      (aaj (aan (aac (pv 0))))))) (fun x Q E h=>?_)
  replace h:∃ (n:Nat) (f:Nat->Nat->Rat),x=tabD n f/\n<=5/\(∀ i j,i < n->j < n->Nb 40 (f i j))/\Q (.d (tabD n (closeF f n))):=h
  obtain ⟨n,f,rfl,h5,hb,h⟩:=h
  have hz:szl=16777216:=rfl
  refine ags (.int n) (fun Q hQ=>aeb hQ) ?_
  have lst0:∀ g:Nat->Nat->Rat,pubO (.lst ((List.range n).map fun i=>rowX n fun j=>rD (g i j)))=tabD n g:=fun g=>rfl
  refine aaT (fun s=>∃ a0 a2,(a0=.d (tabD n (closeF f n))\/a0=.own (.lst ((List.range n).map fun i=>rowX n fun j=>rD (closeF f n i j))))/\s=[some a0,some (.d (.int n)),a2,none,none]) (fun N hN=>?_) (fun s hs=>?_)
  · refine ads (by omega) (by omega) ?_
    refine adX (fun r s=>∃ (m:Nat) (a0:DV) (a2:Option DV),m<=n/\r=intsFrom (m:Int) (n - m)/\(a0=.d (tabD n (closeF f m))\/a0=.own (.lst ((List.range n).map fun i=>rowX n fun j=>rD (closeF f m i j))))/\s=[some a0,some (.d (.int n)),a2,none,none]) (fun N1 d r s hN1 hs=>?_) (fun s hs=>?_) _ _ ⟨0,_,_,by omega,rfl,.inl rfl,rfl⟩
    · obtain ⟨m,a0,a2,hm,er,ha,rfl⟩:=hs
      have hmn:m < n:=by
        rcases Nat.lt_or_ge m n with z | z
        · exact z
        · have:n - m=0:=by omega
          rw [this] at er;cases er
      obtain ⟨k,ek⟩:∃ k,n - m=k + 1:=⟨n - m - 1,by omega⟩
      rw [ek] at er
      have er2:d::r=.int (m:Int)::intsFrom ((m:Int) + 1) k:=er
      cases er2
      have bts:=aeE hb m (by omega)
      have b5:bitsF m<=1000:=by
        have:m<=4:=by omega
        match m,this with
        | 0,_=>decide
        | 1,_=>decide
        | 2,_=>decide
        | 3,_=>decide
        | 4,_=>decide
      have ep:pubSl 0 [some a0,some (.d (.int n)),some (.d (.int (m:Int))),none,none]=[some (.d (tabD n (closeF f m))),some (.d (.int n)),some (.d (.int (m:Int))),none,none]:=by
        rcases ha with rfl | rfl<;>rfl
      show dSet _ 0 _ (pubSl 0 [some a0,some (.d (.int n)),some (.d (.int (m:Int))),none,none])
      rw [ep]
      refine ads (by omega) (by omega) ?_
      refine ajQ (fun i=>rowX n fun j=>rD (stepF (closeF f m) m i j)) _ (by omega) (fun i hi M A mm=>?_) ?_
      · refine brT ?_
        refine ads (by omega) (by omega) ?_
        refine ajQ (fun j=>rD (stepF (closeF f m) m i j)) _ (by omega) (fun j hj M' A' mm'=>?_) mm
        refine brT ?_
        refine ajS (x:=fun i j=>rD (closeF f m i j)) hi (ajT hj ?_)
        refine ajS (x:=fun i j=>rD (closeF f m i j)) hi (ajT hmn ?_)
        refine ajS (x:=fun i j=>rD (closeF f m i j)) hmn (ajT hj ?_)
        refine ⟨rfl,rfl,_,_,rfl,_,_,rfl,rfl,(bts i m hi hmn).mono (by omega),(bts m j hmn hj).mono (by omega),?_⟩
        refine acG rfl rfl ?_
        exact ⟨rfl,rfl,_,rfl,_,_,rfl,(bts i j hi hj).mono (by omega),(alI (bts i m hi hmn) (bts m j hmn hj)).mono (by omega),mm'⟩
      · refine hN1 _ ⟨m + 1,_,_,by omega,?_,.inr rfl,rfl⟩
        have:n - (m + 1)=k:=by omega
        rw [this]
        show intsFrom ((m:Int) + 1) k=intsFrom ((m + 1:Nat):Int) k
        congr 1
    · obtain ⟨m,a0,a2,hm,er,ha,rfl⟩:=hs
      have:m=n:=by
        rcases Nat.lt_or_ge m n with z | z
        · obtain ⟨k,ek⟩:∃ k,n - m=k + 1:=⟨n - m - 1,by omega⟩
          rw [ek] at er;cases er
        · omega
      subst this
      exact hN _ ⟨a0,a2,ha,rfl⟩
  obtain ⟨a0,a2,ha,rfl⟩:=hs
  rcases ha with rfl | rfl
  · exact h
  · exact h
theorem pick1 {n:Nat} {R:Nat->Rat->Prop} (h:∀ i,i < n->∃ q,R i q):∃ f:Nat->Rat,∀ i,i < n->R i (f i):=
  ⟨fun i=>if z:i < n then (h i z).choose else 0,fun i hi=>by
    show R i (if z:i < n then (h i z).choose else 0)
    rw [dif_pos hi];exact (h i hi).choose_spec⟩
theorem pick2 {n:Nat} {R:Nat->(Nat->Rat)->Prop} (h:∀ i,i < n->∃ q,R i q):∃ f:Nat->Nat->Rat,∀ i,i < n->R i (f i):=
  ⟨fun i=>if z:i < n then (h i z).choose else fun _=>0,fun i hi=>by
    show R i (if z:i < n then (h i z).choose else fun _=>0)
    rw [dif_pos hi];exact (h i hi).choose_spec⟩
structure TabQ (n:Nat) (f:Nat->Nat->Rat):Prop where
  gd:GoodF n f
  ln:∀ i j,i < n->j < n->Ln 60 2000000000 (f i j)
theorem TabQ.nb {n:Nat} {f:Nat->Nat->Rat} (h:TabQ n f) (i j:Nat) (hi:i < n) (hj:j < n):Nb 1400 (f i j):=((h.ln i j hi hj).nb (k:=40) (by decide) (by decide) (by decide)).mono (by decide)
abbrev aeh:List Str:=["_law_src","_law_size","_law_one","_law_other"]
theorem acN:FnScope aeh ["_law_src","_law_size"] (defScope abB):=⟨rfl,rfl,rfl,by decide +kernel,rfl,by decide +kernel,by decide +kernel⟩
theorem ah5 (T:Tx P K mg base a d):FnG P w K mg base 4 (a abE) (d abE) ["_law_src","_law_size"] (fun args Q E=>∃ x:D,args=[.src,.d x]/\(∃ n:Nat,x=.int n/\n<=5/\∀ f:Nat->Nat->Rat,TabQ n f->Q (.d (tabD n f)))):=by
  have G__law_closed:FnG P w K mg base 3 (a abr) (d abr) ["_law_rows"] (sp1 fun x Q _=>∃ (n:Nat) (f:Nat->Nat->Rat),x=tabD n f/\n<=5/\(∀ i j,i < n->j < n->Nb 40 (f i j))/\Q (.d (tabD n (closeF f n)))):=ahh T
  have G__law_length:FnG P w K mg base 2 (a abq) (d abq) ["_law_src"] (sr0 fun Q _=>∀ q:Rat,Ln 60 60000000 q->Q (.d (rD q))):=ahf T
  refine ad3 T.F__law_table acN (by rintro _ Q E ⟨x,rfl,h⟩;rfl) (fun args Q E h=>aib (by obtain ⟨x,rfl,h⟩:=h;intro x hx;simp only [List.mem_cons,List.not_mem_nil,or_false] at hx;rcases hx with rfl | rfl<;>first | exact .inl (.inl ⟨_,rfl⟩) | exact .inr rfl | exact .inl (by assumption))) (fun cdv A outer s H E hr hg=>(aaj (aan (aag G__law_closed (hr.mono (by decide)) hg (tkOf rfl rfl rfl rfl) (agZ T) (by rfl) T.m__law_closed T.F__law_closed.kp (aaa (aet (own:=[("_law_one",2)]) rfl acN.nd (acy (by rfl) T.n_range (aaa (aac (pv 1)) aab)) (blkOk_by (own:=[("_law_one",2)]) (N:=aeh) (sc:=(defScope abB)) (by decide +kernel)) (fun _ _ _ _ _=>(aaw (i:=2) acN.nd rfl (Or.inr rfl))) (fun _ _ _ _ _=>aa5) (fun _ _ _ _ _=>(aet (own:=[("_law_other",3)]) rfl acN.nd (acy (by rfl) T.n_range (aaa (aac (pv 1)) aab)) (blkOk_by (own:=[("_law_other",3)]) (N:=aeh) (sc:=_) (by kernel_rfl)) (fun _ _ _ _ _=>(aaw (i:=3) acN.nd rfl (Or.inl rfl))) (fun _ _ _ _ _=>aa5) (fun _ _ _ _ _=>(afm (abA (abP hr.units) adn (aae (pv 2)) (aae (pv 3)) (nomark _)) (acT (aaa aaf (aaa aaf aab))) (aag G__law_length (hr.mono (by decide)) hg adl (agY T) (by rfl) T.m__law_length T.F__law_length.kp (aaa (aac (pv 0)) aab))))))) aab))))) (fun args Q E h=>?_)
  obtain ⟨x,rfl,h⟩:=h
  obtain ⟨n,rfl,h5,h⟩:=h
  have hz:szl=16777216:=rfl
  refine ads (by omega) (by omega) ?_
  refine af6 (fun i d=>∃ g:Nat->Rat,d=rowX n (fun j=>rD (g j))/\∀ j,j < n->Ln 60 60000000 (g j)/\(i=j->g j=0)) _ (by omega) (fun i hi M A hM=>?_) (fun ds hds=>?_)
  · refine brT ?_
    refine ads (by omega) (by omega) ?_
    refine af6 (fun j d=>∃ q:Rat,d=rD q/\Ln 60 60000000 q/\(i=j->q=0)) _ (by omega) (fun j hj M' A' hM'=>?_) (fun es hes=>?_)
    · refine brT ?_
      refine aff ?_
      refine br (fun z=>?_) (fun z=>?_)
      · exact aeG rfl rfl (hM' _ ⟨0,rfl,aoJ,fun _=>rfl⟩)
      · have ne:i≠j:=fun e=>of_decide_eq_false z (by rw [e])
        exact ⟨rfl,rfl,rfl,fun q hq=>hM' _ ⟨q,rfl,hq,fun e=>absurd e ne⟩⟩
    · obtain ⟨g,hg⟩:=pick1 hes
      refine hM _ ⟨g,?_,fun j hj=>(hg j hj).2⟩
      show D.lst ((List.range n).map es)=D.lst ((List.range n).map fun j=>rD (g j))
      congr 1
      exact List.map_congr_left fun j hj=>(hg j (List.mem_range.mp hj)).1
  · obtain ⟨f,hf⟩:=pick2 hds
    have e:D.lst ((List.range n).map ds)=tabD n f:=by
      unfold tabD tabX
      congr 1
      exact List.map_congr_left fun i hi=>(hf i (List.mem_range.mp hi)).1
    refine ⟨rfl,rfl,_,rfl,n,f,e,h5,fun i j hi hj=>(((hf i hi).2 j hj).1.nb (k:=40) (by decide) (by decide) (by decide)),?_⟩
    refine h _ ⟨ak5 (fun i j hi hj=>((hf i hi).2 j hj).1.nn) (fun i hi=>((hf i hi).2 i hi).2 rfl),fun i j hi hj=>(akJ (by decide) (fun i j hi hj=>((hf i hi).2 j hj).1) n (Nat.le_refl _) i j hi hj).mono ?_⟩
    match n,h5 with
    | 0,_=>decide
    | 1,_=>decide
    | 2,_=>decide
    | 3,_=>decide
    | 4,_=>decide
    | 5,_=>decide
abbrev planD (n:Nat) (ks:List Str) (pl:Str->Nat) (fs:List (Nat->Nat->Rat)):D:=.tup [.lst (ks.map fun s=>.tup [.str s,.int (pl s)]),.lst (fs.map (tabD n))]
theorem amS (ks:List Str):strsD (ks.map D.str)=some ks:=by
  induction ks with
  | nil=>rfl
  | cons k r ih=>show (strsD (r.map D.str)).map (k::·)=_;rw [ih];rfl
theorem ajh {ks:List Str} {pl:Str->Nat} (h:ks.Nodup):mergeD [] (nmD ks pl)=nmD ks pl:=akr pl ks [] (by simpa using h)
abbrev acP:List Str:=["_law_src","_law_names_here","_law_size","_law_layers","_law_places","_law_order","_law_k","_law_layer_z"]
theorem aaE:FnScope acP ["_law_src","_law_names_here","_law_size","_law_layers"] (defScope aau):=⟨rfl,rfl,rfl,by decide +kernel,rfl,by decide +kernel,by decide +kernel⟩
theorem aeW (T:Tx P K mg base a d):FnG P w K mg base 5 (a aaz) (d aaz) ["_law_src","_law_names_here","_law_size","_law_layers"] (fun args Q E=>∃ x:D,∃ y:D,∃ z:D,args=[.src,.d x,.d y,.d z]/\(∃ (ns:List Str) (n m:Nat),x=.lst (ns.map .str)/\y=.int n/\z=.int m/\ns.length<=5/\ns.Nodup/\(∀ s∈ns,nameOk s=true)/\1<=n/\n<=5/\m<=2/\∀ (ks:List Str) (pl:Str->Nat) (fs:List (Nat->Nat->Rat)),ks.Perm (ns.take n)->NmOk n ks pl->sortedS ks=true->fs.length=m->(∀ g∈fs,TabQ n g)->Q (.d (planD n ks pl fs)))):=by
  have G__law_mixed:FnG P w K mg base 2 (a abd) (d abd) ["_law_src","_law_things"] (fun args Q E=>∃ x:D,args=[.src,.d x]/\(∃ ds:List D,x=.lst ds/\ds.length<=1000/\∀ es:List D,es.Perm ds->Q (.d (.lst es)))):=ae9 T
  have G__law_table:FnG P w K mg base 4 (a abE) (d abE) ["_law_src","_law_size"] (fun args Q E=>∃ x:D,args=[.src,.d x]/\(∃ n:Nat,x=.int n/\n<=5/\∀ f:Nat->Nat->Rat,TabQ n f->Q (.d (tabD n f)))):=ah5 T
  refine ad3 T.F__law_spread_plan aaE (by rintro _ Q E ⟨x,y,z,rfl,h⟩;rfl) (fun args Q E h=>aib (by obtain ⟨x,y,z,rfl,h⟩:=h;intro x hx;simp only [List.mem_cons,List.not_mem_nil,or_false] at hx;rcases hx with rfl | rfl | rfl | rfl<;>first | exact .inl (.inl ⟨_,rfl⟩) | exact .inr rfl | exact .inl (by assumption))) (fun cdv A outer s H E hr hg=>(aak (abV (i:=4) aaE.nd rfl (Or.inr rfl) (aag G__law_mixed (hr.mono (by decide)) hg (tkOf rfl rfl rfl rfl) (aeP T) (by rfl) T.m__law_mixed T.F__law_mixed.kp (aaa (aac (pv 0)) (aaa (amw rfl (by rfl) T.n_list (by rfl) T.n_range (aac (pv 2))) aab))))
      (aak (abV (i:=5) aaE.nd rfl (Or.inr rfl) (aah cr_sortedS ali (by rfl) T.n_sorted (by decide +kernel) (aaa (ajo (aae (pv 1)) aeq (aep (aac (pv 2)))) aab)))
      (aaj (aan (acT (aaa (aet (own:=[("_law_k",6)]) rfl aaE.nd (acy (by rfl) T.n_range (aaa (aah call_len aa0 (by rfl) T.n_len PySem.boot_len (aaa (aae (pv 5)) aab)) aab)) (blkOk_by (own:=[("_law_k",6)]) (N:=acP) (sc:=(defScope aau)) (by decide +kernel)) (fun _ _ _ _ _=>(aaw (i:=6) aaE.nd rfl (Or.inl rfl))) (fun _ _ _ _ _=>aa5) (fun _ _ _ _ _=>(acT (aaa (aat ix_seq aai (aae (pv 5)) (aac (pv 6)) (fun _ _=>rfl)) (aaa (aat ix_seq aai (aae (pv 4)) (aac (pv 6)) (fun _ _=>rfl)) aab))))) (aaa (aet (own:=[("_law_layer_z",7)]) rfl aaE.nd (acy (by rfl) T.n_range (aaa (aac (pv 3)) aab)) (blkOk_by (own:=[("_law_layer_z",7)]) (N:=acP) (sc:=(defScope aau)) (by decide +kernel)) (fun _ _ _ _ _=>(aaw (i:=7) aaE.nd rfl (Or.inl rfl))) (fun _ _ _ _ _=>aa5) (fun _ _ _ _ _=>(aag G__law_table (hr.mono (by decide)) hg adl (ahr T) (by rfl) T.m__law_table T.F__law_table.kp (aaa (aac (pv 0)) (aaa (aac (pv 2)) aab))))) aab)))))))) (fun args Q E h=>?_)
  obtain ⟨x,y,z,rfl,h⟩:=h
  obtain ⟨ns,n,m,rfl,rfl,rfl,nl,nnd,nnm,n1,n5,m2,h⟩:=h
  have hz:szl=16777216:=rfl
  refine adL (fun d=>∃ qs:List Nat,d=.lst (qs.map fun (p:Nat)=>.int (p:Int))/\qs.length=n/\qs.Nodup/\∀ p∈qs,p < n) (fun Q hQ=>?_) (fun x hx=>?_)
  · refine ⟨by omega,by omega,?_⟩
    refine ⟨rfl,rfl,_,rfl,_,rfl,by rw [acB];omega,fun es hp=>hQ _ ?_⟩
    obtain ⟨qs,rfl,hc⟩:=afp (f:=fun (p:Nat)=>D.int (p:Int)) (P:=fun p=>p < n) (es:=es) fun x hx=>by
      obtain ⟨i,hi,rfl⟩:=adw (hp.mem_iff.mp hx)
      exact ⟨i,by rw [Int.zero_add],by omega⟩
    refine ⟨qs,rfl,?_,ahF (f:=fun (p:Nat)=>D.int (p:Int)) (hp.nodup_iff.mpr (ahJ _ _)),hc⟩
    have:=hp.length_eq
    rw [List.length_map,acB] at this
    omega
  obtain ⟨qs,rfl,ql,qnd,qlt⟩:=hx
  refine amV (s':=[some .src,some (.d (.lst (ns.map .str))),some (.d (.int n)),some (.d (.int m)),some (.d (.lst (qs.map fun (p:Nat)=>.int (p:Int)))),none,none,none]) (fun ds=>∃ ks:List Str,ds=ks.map .str/\ks.length<=n/\ks.length<=5/\ks.Nodup/\sortedS ks=true/\(∀ s∈ks,nameOk s=true)/\ks.Perm (ns.take n)) (fun Q hQ=>?_) (fun ds hds=>?_)
  · refine alY (ds:=ns.map .str) rfl ?_
    rw [aew,<- List.map_take]
    refine aoO rfl (amS _) (by rw [List.length_take];omega) (fun ys hp hso=>hQ _ ⟨ys,rfl,?_,?_,?_,hso,fun s hs=>?_,hp⟩)
    · rw [hp.length_eq,List.length_take];omega
    · rw [hp.length_eq,List.length_take];omega
    · exact hp.nodup_iff.mpr (nnd.sublist (List.take_sublist _ _))
    · exact nnm s (List.mem_of_mem_take (hp.mem_iff.mp hs))
  obtain ⟨ks,rfl,kn,k5,knd,kso,knm,kpm⟩:=hds
  obtain ⟨pl,hpl⟩:=apU ks qs knd (by omega)
  refine acR rfl ?_
  rw [List.length_map]
  refine ads (by omega) (by omega) ?_
  refine af6 (fun k d=>∀ s,ks[k]?=some s->d=.tup [.str s,.int (pl s)]) _ (by omega) (fun k hk M A hM=>?_) (fun g hg=>?_)
  · refine brT ?_
    have ek:ks[k]?=some ks[k]:=List.getElem?_eq_getElem hk
    refine aej (ds:=ks.map .str) rfl (ajr ek) ?_
    refine aej (ds:=qs.map fun (p:Nat)=>.int (p:Int)) rfl (ajr (hpl k _ ek)) ?_
    refine aeG rfl rfl (hM _ fun s es=>?_)
    rw [ek] at es;cases es;rfl
  · refine ads (by omega) (by omega) ?_
    refine af6 (fun _ d=>∃ f,TabQ n f/\d=tabD n f) _ (by omega) (fun k hk M A hM=>?_) (fun gs hgs=>?_)
    · refine brT ?_
      exact ⟨rfl,rfl,_,rfl,n,rfl,n5,fun f hf=>hM _ ⟨f,hf,rfl⟩⟩
    · obtain ⟨fs,e,hfs⟩:=afp (f:=tabD n) (P:=TabQ n) (es:=(List.range m).map gs) fun x hx=>by
        obtain ⟨i,hi,rfl⟩:=List.mem_map.mp hx
        obtain ⟨f,h1,h2⟩:=hgs i (List.mem_range.mp hi)
        exact ⟨f,h2,h1⟩
      have e1:(List.range ks.length).map g=ks.map fun s=>D.tup [.str s,.int (pl s)]:=aos fun k s hk=>hg k (List.getElem?_eq_some_iff.mp hk).1 s hk
      have fl:fs.length=m:=by
        have:=congrArg List.length e
        rw [List.length_map,List.length_map,List.length_range] at this
        omega
      have key:=h ks pl fs kpm ⟨knd,k5,knm,fun s hs=>?_,fun s hs y hy q=>?_⟩ kso fl hfs
      · refine aeG (ds:=[.lst ((List.range ks.length).map g),.lst ((List.range m).map gs)]) rfl rfl ?_
        rw [e1,e];exact key
      · obtain ⟨k,hk⟩:=List.getElem?_of_mem hs
        exact qlt _ (List.mem_of_getElem? (hpl k s hk))
      · obtain ⟨k,hk⟩:=List.getElem?_of_mem hs
        obtain ⟨j,hj⟩:=List.getElem?_of_mem hy
        have a:=hpl k s hk
        have b:=hpl j y hj
        rw [q] at a
        have:k=j:=by
          have ka:=(List.getElem?_eq_some_iff.mp a).1
          exact (List.getElem?_inj ka qnd).mp (a.trans b.symm)
        subst this
        rw [hk] at hj;cases hj;rfl
theorem ajx {n:Nat} {g:Nat->Nat->Rat} (n1:1<=n) (n9:n<=9) (h:GoodF n g/\∀ i j,i < n->j < n->Nb 1900 (g i j)):TabOk n (fun i j=>rD (g i j)) g:=⟨n1,n9,fun _ _ _ _=>aoA _,fun _ _ _ _=>akh _,h.2,h.1⟩
theorem adU {n m:Nat} {F:Nat->Nat->Nat->Rat}:(tabsF n m F).length=m + 1:=by rw [List.length_map,List.length_range]
abbrev aeY:List Str:=["_law_plan","_law_tables","_law_table_here","_law_row"]
theorem ac5:FnScope aeY ["_law_plan"] (defScope ab1):=⟨rfl,rfl,rfl,by decide +kernel,rfl,by decide +kernel,by decide +kernel⟩
theorem ai7 (T:Tx P K mg base a d):FnG P w K mg base 9 (a aca) (d aca) ["_law_plan"] (sp1 fun x Q _=>∃ (n m:Nat) (ks:List Str) (pl:Str->Nat) (F:Nat->Nat->Nat->Rat),x=planF n m ks pl F/\1<=n/\n<=9/\m<=1/\NmOk n ks pl/\(∀ k,k<=m->GoodF n (F k)/\∀ i j,i < n->j < n->Nb 1900 (F k i j))/\∀ ys:List Str,ys.Perm ks->sortedS ys=true->Q (.d (wld K (tabsF n m F) (nmD ys pl)))):=by
  have G_World___init__:FnR P w K mg base 7 (a aas) (d aas) ["self","names","foot","cart"] (upIN K (He.ga K "World") (fun args Q E=>∃ nm:DV,∃ ft:D,∃ ct:D,args=[nm,.d ft,.d ct]/\NoSee nm/\(∃ (n:Nat) (e:Nat->Nat->D) (f:Nat->Nat->Rat) (ks:List Str) (val:Str->D) (fs:List (Nat->Nat->Rat)),(nm=.d (.dk (kvD ks val))\/nm=.bor (.dk (kvD ks val)))/\ft=tabX n e/\TabOk n e f/\((ct=.non/\fs=[])\/∃ (e':Nat->Nat->D) (f':Nat->Nat->Rat),ct=tabX n e'/\TabOk n e' f'/\fs=[f'])/\(∀ z∈ks,(val z).sol=true)/\NmDo K n ks val (fun ys=>∀ t:FT,t.d=wld K (tabL n f::fs.map (tabL n)) (kvD ys val)->t.sol=true->Q t) E))):=adG T
  refine acD T.F__law_made ac5 (fun cdv A outer s H E hr hg=>(aak (af9 (i:=1) (own:=[("_law_table_here",2)]) rfl ac5.nd rfl rfl (sw_true rfl rfl rfl (by decide +kernel)) (acE (aat ix_seq aai (aae (pv 0)) aaf (fun _ _=>rfl))) (blkOk_by (own:=[("_law_table_here",2)]) (N:=aeY) (sc:=(defScope ab1)) (by decide +kernel)) (fun _ _ _ _ _=>(aaw (i:=2) ac5.nd rfl (Or.inl rfl))) (fun _ _ _ _ _=>aa5) (fun _ _ _ _ _=>(aet (own:=[("_law_row",3)]) rfl ac5.nd (acE (aac (pv 2))) (blkOk_by (own:=[("_law_row",3)]) (N:=aeY) (sc:=_) (by kernel_rfl)) (fun _ _ _ _ _=>(aaw (i:=3) ac5.nd rfl (Or.inl rfl))) (fun _ _ _ _ _=>aa5) (fun _ _ _ _ _=>(adY call_list_of ake (by rfl) T.n_list (by decide +kernel) (aaa (aae (pv 3)) aab))))))
      (aaj (aan (agV (afk T.mk_World G_World___init__ (hr.mono (by decide)) hg (tkOf rfl rfl rfl rfl) (aaL T) rfl (by rfl) T.m_World (aaa (anw rfl (by rfl) T.n_dict (aaa (aat ix_seq aai (aae (pv 0)) aaf (fun _ _=>rfl)) aab)) (aaa (aat ix_seq aai (aae (pv 1)) aaf (fun _ _=>rfl)) aab)) (ae0 (afm (abA (abP hr.units) adn (aah call_len aa0 (by rfl) T.n_len PySem.boot_len (aaa (aae (pv 1)) aab)) aaf (nomark _)) (aat ix_seq aai (aae (pv 1)) aaf (fun _ _=>rfl)) aer) agU))))))) (fun x Q E h=>?_)
  replace h:∃ (n m:Nat) (ks:List Str) (pl:Str->Nat) (F:Nat->Nat->Nat->Rat),x=planF n m ks pl F/\1<=n/\n<=9/\m<=1/\NmOk n ks pl/\(∀ k,k<=m->GoodF n (F k)/\∀ i j,i < n->j < n->Nb 1900 (F k i j))/\∀ ys:List Str,ys.Perm ks->sortedS ys=true->Q (.d (wld K (tabsF n m F) (nmD ys pl))):=h
  obtain ⟨n,m,ks,pl,F,rfl,n1,n9,m1,nk,hF,h⟩:=h
  have hz:szl=16777216:=rfl
  refine aeB (tabsF n m F) (fun Q hQ=>?_) ?_
  · refine abb rfl (abx ?_)
    refine ajR _ (fun k=>tabL n (F k)) _ (by omega) (fun k hk M A mm=>?_) hQ
    refine brT ?_
    refine abx ?_
    refine ajR _ (fun i=>rowX n fun j=>rD (F k i j)) [some (.d (planF n m ks pl F)),none,some (.d (tabL n (F k))),none] (by omega) (fun i hi M' A' mm'=>?_) mm
    refine brT ?_
    exact alZ (ds:=(List.range n).map fun j=>rD (F k i j)) rfl mm'
  refine abb rfl ?_
  refine aoX rfl (ah2 pl ks) ?_
  rw [ajh nk.nd]
  have sp:=acU n m F
  refine aej (ds:=tabsF n m F) (d:=tabL n (F 0)) rfl (by rw [sp];exact aiw) ?_
  refine acR (ds:=tabsF n m F) rfl ?_
  refine aff ?_
  rw [adU]
  match m,m1,hF,h with
  | 0,_,hF,h=>
    refine brF ?_
    exact ⟨rfl,rfl,_,_,_,rfl,(fun _ z=>by cases z),n,_,F 0,ks,_,[],.inl rfl,rfl,ajx n1 n9 (hF 0 (by omega)),.inl ⟨rfl,rfl⟩,(fun _ _=>rfl),adf nk fun ys hp hs t et _=>by have q:=h ys hp hs;rw [show wld K (tabsF n 0 F) (nmD ys pl)=t.d from et.symm] at q;exact q⟩
  | 1,_,hF,h=>
    refine brT ?_
    refine aej (ds:=[tabL n (F 0),tabL n (F 1)]) rfl rfl ?_
    exact ⟨rfl,rfl,_,_,_,rfl,(fun _ z=>by cases z),n,_,F 0,ks,_,[F 1],.inl rfl,rfl,ajx n1 n9 (hF 0 (by omega)),.inr ⟨_,F 1,rfl,ajx n1 n9 (hF 1 (by omega)),rfl⟩,(fun _ _=>rfl),adf nk fun ys hp hs t et _=>by have q:=h ys hp hs;rw [show wld K (tabsF n 1 F) (nmD ys pl)=t.d from et.symm] at q;exact q⟩
end
section
variable {P:Program} {w:World} {K:PySem.W.Frag} {mg:Str->Option Value} {base:Heap} {a:Nat->Addr} {d:Nat->FuncData}
theorem rng2 {m:Nat} (h:m<=1) {α:Type} (f:Nat->α):((List.range 2).map f).take (m + 1)=(List.range (m + 1)).map f:=by
  match m,h with
  | 0,_=>rfl
  | 1,_=>rfl
theorem aoM {k m:Nat} (hk:k < m + 1) (hm:m<=1):layB (m + 1) (.str (if k=0 then "foot" else "cart"))=true/\layIx (.str (if k=0 then "foot" else "cart"))=k:=by
  match k,m,hk,hm with
  | 0,0,_,_=>exact ⟨by decide +kernel,by decide +kernel⟩
  | 0,1,_,_=>exact ⟨by decide +kernel,by decide +kernel⟩
  | 1,1,_,_=>exact ⟨by decide +kernel,by decide +kernel⟩
  | 1,0,h,_=>exact absurd h (by decide)
  | k + 2,m,h,hm=>exact absurd h (by omega)
abbrev aeX:List Str:=["_law_world","_law_tables","_law_layer_z","_law_name_z"]
theorem ac4:FnScope aeX ["_law_world"] (defScope abI):=⟨rfl,rfl,rfl,by decide +kernel,rfl,by decide +kernel,by decide +kernel⟩
theorem ai4 (T:Tx P K mg base a d):FnG P w K mg base 7 (a ab7) (d ab7) ["_law_world"] (sp1 fun me Q _=>∃ (n m:Nat) (F:Nat->Nat->Nat->Rat) (ys:List Str) (pl:Str->Nat),me=wld K (tabsF n m F) (nmD ys pl)/\n<=9/\m<=1/\ys.length<=5/\sortedS ys=true/\Q (.d (planF n m ys pl F))):=by
  have G_World_layers:FnG P w K mg base 1 (a aap) (d aap) ["self"] (sp1 fun me Q _=>∃ (tabs:List D) (nm:List (Key × D)),me=wld K tabs nm/\Q (.d (.int tabs.length))):=acO T
  have G_World_names:FnG P w K mg base 1 (a aaC) (d aaC) ["self"] (sp1 fun me Q _=>∃ (tabs:List D) (ks:List Str) (val:Str->D),me=wld K tabs (kvD ks val)/\ks.length < 64/\∀ ys:List Str,ys.Perm ks->sortedS ys=true->Q (.own (.lst (ys.map .str)))):=adC T
  have G_World_place:FnG P w K mg base 3 (a aaK) (d aaK) ["self","name"] (sp2 fun me x Q E=>∃ (tabs:List D) (ks:List Str) (val:Str->D),me=wld K tabs (kvD ks val)/\kindD x=true/\(hasB (kvD ks val) x=false->E (.ref (He.ga K "UnknownName")) (abQ x))/\∀ z∈ks,x=.str z->Q (.d (val z))):=aeN T
  have G_World_table:FnR P w K mg base 5 (a aaB) (d aaB) ["self","layer"] (upSN K (fun args Q E=>∃ me:D,∃ x:D,args=[.d me,.d x]/\(∃ (n:Nat) (f:Nat->Nat->Rat) (fs:List (Nat->Nat->Rat)) (nm:List (Key × D)),me=wld K (tabL n f::fs.map (tabL n)) nm/\n<=9/\fs.length<=1/\kindD x=true/\(layB (fs.length + 1) x=false->E (.ref (He.ga K "InvalidLayer")) (aaS x))/\(layB (fs.length + 1) x=true->∀ g,(f::fs)[layIx x]?=some g->∀ t:FT,t.d=tabL n g->t.sol=true->Q t)))):=aeM T
  refine acD T.F__law_told ac4 (fun cdv A outer s H E hr hg=>(aak (af9 (i:=1) (own:=[("_law_layer_z",2)]) rfl ac4.nd rfl rfl (sw_true rfl rfl rfl (by decide +kernel)) (acE (ajo (abt (aaa aa7 (aaa aa7 aab))) aeq (aep (ae1 (aac (pv 0)) T.cl_World T.pr_World_layers G_World_layers (hr.mono (by decide)) hg (ace T))))) (blkOk_by (own:=[("_law_layer_z",2)]) (N:=aeX) (sc:=(defScope abI)) (by decide +kernel)) (fun _ _ _ _ _=>(aaw (i:=2) ac4.nd rfl (Or.inl rfl))) (fun _ _ _ _ _=>aa5) (fun _ _ _ _ _=>(agV (apj (aac (pv 0)) T.cl_World T.me_World_table G_World_table (hr.mono (by decide)) hg adl (ag0 T) (aaa (aac (pv 2)) aab)))))
      (aaj (aan (acT (aaa (aet (own:=[("_law_name_z",3)]) rfl ac4.nd (acE (aga (aac (pv 0)) T.cl_World T.me_World_names G_World_names (hr.mono (by decide)) hg (tkOf rfl rfl rfl rfl) (acQ T))) (blkOk_by (own:=[("_law_name_z",3)]) (N:=aeX) (sc:=(defScope abI)) (by decide +kernel)) (fun _ _ _ _ _=>(aaw (i:=3) ac4.nd rfl (Or.inl rfl))) (fun _ _ _ _ _=>aa5) (fun _ _ _ _ _=>(acT (aaa (aac (pv 3)) (aaa (amv (aac (pv 0)) T.cl_World T.me_World_place G_World_place (hr.mono (by decide)) hg adl (ag2 T) (aaa (aac (pv 3)) aab)) aab))))) (aaa (aac (pv 1)) aab))))))) (fun me Q E h=>?_)
  replace h:∃ (n m:Nat) (F:Nat->Nat->Nat->Rat) (ys:List Str) (pl:Str->Nat),me=wld K (tabsF n m F) (nmD ys pl)/\n<=9/\m<=1/\ys.length<=5/\sortedS ys=true/\Q (.d (planF n m ys pl F)):=h
  obtain ⟨n,m,F,ys,pl,rfl,n9,m1,y5,yso,h⟩:=h
  have hz:szl=16777216:=rfl
  have tl:(tabsF n m F).length=m + 1:=by rw [List.length_map,List.length_range]
  have S0:(F 0::(List.range m).map fun k=>F (k + 1))=(List.range (m + 1)).map F:=(aiW F m).symm
  refine aeB (tabsF n m F) (fun Q hQ=>?_) ?_
  · refine acG rfl rfl ?_
    refine ⟨rfl,_,rfl,_,_,rfl,?_⟩
    rw [tl]
    refine alY (ds:=[.str "foot",.str "cart"]) rfl ?_
    rw [aew,show ([.str "foot",.str "cart"]:List D)=(List.range 2).map (fun k=>D.str (if k=0 then "foot" else "cart")) from rfl,rng2 m1]
    refine abx ?_
    refine ajR _ (fun k=>tabL n (F k)) [some (.d (wld K (tabsF n m F) (nmD ys pl))),none,none,none] (by omega) (fun k hk M A mm=>?_) hQ
    refine brT ?_
    obtain ⟨la,lb⟩:=aoM hk m1
    refine ⟨rfl,rfl,rfl,rfl,_,_,rfl,n,F 0,(List.range m).map (fun k=>F (k + 1)),nmD ys pl,by rw [acU],n9,by rw [List.length_map,List.length_range];exact m1,rfl,(fun z=>?_),(fun _ g eg t et _=>?_)⟩
    · rw [List.length_map,List.length_range,la] at z;cases z
    · rw [lb,S0,List.getElem?_map,List.getElem?_range hk] at eg
      cases eg
      rw [<- et] at mm
      exact mm
  refine ⟨rfl,rfl,rfl,rfl,_,rfl,_,ys,(fun z=>.int (pl z)),rfl,by omega,fun zs hp hs=>?_⟩
  rw [aaJ hs yso hp]
  refine abx ?_
  refine adr (fun d=>match d with | .str z=>.tup [.str z,.int (pl z)] | _=>.non) _ (by rw [List.length_map];omega) (fun d hd M A mm=>?_) ?_
  · obtain ⟨z,hz1,rfl⟩:=List.mem_map.mp hd
    refine brT ?_
    refine ⟨rfl,rfl,rfl,rfl,_,_,rfl,_,ys,(fun z=>.int (pl z)),rfl,rfl,(fun hh=>?_),fun y hy e=>?_⟩
    · have:(valD (kvD ys fun z=>.int (pl z)) (.inr z)).isSome=false:=hh
      rw [adV,if_pos hz1] at this;cases this
    · cases e
      exact aeG rfl rfl mm
  · rw [List.map_map]
    exact aeG rfl rfl h
abbrev afZ:List Str:=["_law_plan"]
theorem afw:FnScope afZ ["_law_plan"] (defScope aa1):=⟨rfl,rfl,rfl,by decide +kernel,rfl,by decide +kernel,by decide +kernel⟩
theorem adF (T:Tx P K mg base a d):FnG P w K mg base 1 (a aax) (d aax) ["_law_plan"] (sp1 fun x Q _=>∃ (n m:Nat) (ks:List Str) (pl:Str->Nat) (F:Nat->Nat->Nat->Rat),x=planF n m ks pl F/\Q (.d (.int (n:Int)))):=by
  refine acD T.F__law_places_of afw (fun cdv A outer s H E hr hg=>(aaj (aan (aah call_len aa0 (by rfl) T.n_len PySem.boot_len (aaa (aat ix_seq aai (aat ix_seq aai (aae (pv 0)) aaf (fun _ _=>rfl)) aaf (fun _ _=>rfl)) aab))))) (fun x Q E h=>?_)
  replace h:∃ (n m:Nat) (ks:List Str) (pl:Str->Nat) (F:Nat->Nat->Nat->Rat),x=planF n m ks pl F/\Q (.d (.int (n:Int))):=h
  obtain ⟨n,m,ks,pl,F,rfl,h⟩:=h
  refine abb rfl ?_
  refine aej (ds:=tabsF n m F) (d:=tabL n (F 0)) rfl (by rw [acU];exact aiw) ?_
  exact aeb (x:=fun i j=>rD (F 0 i j)) h
abbrev afP:List Str:=["_law_plan","_law_names_here","_law_pair"]
theorem adM:FnScope afP ["_law_plan"] (defScope abC):=⟨rfl,rfl,rfl,by decide +kernel,rfl,by decide +kernel,by decide +kernel⟩
theorem ah6 (T:Tx P K mg base a d):FnG P w K mg base 2 (a abF) (d abF) ["_law_plan"] (sp1 fun x Q _=>∃ (n m:Nat) (ks:List Str) (pl:Str->Nat) (F:Nat->Nat->Nat->Rat),x=planF n m ks pl F/\n<=9/\m<=1/\NmOk n ks pl/\(∀ z∈ks,WOk z)/\Q (.d (.str (rpW ks n (m + 1))))):=by
  have G__law_places_of:FnG P w K mg base 1 (a aax) (d aax) ["_law_plan"] (sp1 fun x Q _=>∃ (n m:Nat) (ks:List Str) (pl:Str->Nat) (F:Nat->Nat->Nat->Rat),x=planF n m ks pl F/\Q (.d (.int (n:Int)))):=adF T
  refine acD T.F__law_shown adM (fun cdv A outer s H E hr hg=>(aak (af9 (i:=1) (own:=[("_law_pair",2)]) rfl adM.nd rfl rfl (sw_true rfl rfl rfl (by decide +kernel)) (acE (aat ix_seq aai (aae (pv 0)) aaf (fun _ _=>rfl))) (blkOk_by (own:=[("_law_pair",2)]) (N:=afP) (sc:=(defScope abC)) (by decide +kernel)) (fun _ _ _ _ _=>(aaw (i:=2) adM.nd rfl (Or.inl rfl))) (fun _ _ _ _ _=>aa5) (fun _ _ _ _ _=>(aat ix_seq aai (aae (pv 2)) aaf (fun _ _=>rfl))))
      (aaj (aan (adb (adb (adb (adb (adb (adb aa7 (afm (abA (aeC hr.units) ahB (aae (pv 1)) (abt aab) (nomark _)) (aj0 aa7 (aae (pv 1))) aa7)) aa7) (adY call_str_int alh (by rfl) T.n_str (by decide +kernel) (aaa (aag G__law_places_of (hr.mono (by decide)) hg (tkOf rfl rfl rfl rfl) (abW T) (by rfl) T.m__law_places_of T.F__law_places_of.kp (aaa (aac (pv 0)) aab)) aab))) aa7) (adY call_str_int alh (by rfl) T.n_str (by decide +kernel) (aaa (aah call_len aa0 (by rfl) T.n_len PySem.boot_len (aaa (aat ix_seq aai (aae (pv 0)) aaf (fun _ _=>rfl)) aab)) aab))) aa7))))) (fun x Q E h=>?_)
  replace h:∃ (n m:Nat) (ks:List Str) (pl:Str->Nat) (F:Nat->Nat->Nat->Rat),x=planF n m ks pl F/\n<=9/\m<=1/\NmOk n ks pl/\(∀ z∈ks,WOk z)/\Q (.d (.str (rpW ks n (m + 1)))):=h
  obtain ⟨n,m,ks,pl,F,rfl,n9,m1,nk,hw,h⟩:=h
  have hz:szl=16777216:=rfl
  have k5:=nk.l5
  refine aeB (ks.map D.str) (fun Q hQ=>?_) ?_
  · refine abb rfl (abx ?_)
    refine adr (fun d=>match d with | .tup (x::_)=>x | _=>.non) _ (by rw [List.length_map];omega) (fun d hd M A mm=>?_) ?_
    · obtain ⟨z,hz1,rfl⟩:=List.mem_map.mp hd
      refine brT ?_
      exact abb rfl mm
    · rw [List.map_map]
      exact hQ
  have nl:=ajI hw (by omega)
  have s1:("World(":Str).length=6:=rfl
  have s2:(", ":Str).length=2:=rfl
  have s3:(" places, ":Str).length=9:=rfl
  have s4:(" layers)":Str).length=8:=rfl
  have hn:=afF (b:=20) (i:=(n:Int)) (by omega)
  have hm:=afF (b:=20) (i:=((m + 1:Nat):Int)) (by omega)
  refine acG rfl rfl ?_
  refine al6 (n:=true) (d:=.lst (ks.map .str)) (e:=.lst []) rfl rfl (aoh hw) (adD (b:=20) acl).sh ?_
  rw [afH,anr]
  by_cases e0:ks=[]
  · rw [show (ks.map D.str).isEmpty=true by rw [e0];rfl]
    refine brF ?_
    have en:nmT ks="-":=if_pos e0
    rw [en] at nl
    refine adx (by omega) (adx (by rw [aad];omega) ?_)
    refine ⟨rfl,rfl,_,rfl,n,m,ks,pl,F,rfl,?_⟩
    refine anj (lg20 (by omega)) (adx (by rw [aad,aad];omega) (adx (by rw [aad,aad,aad];omega) ?_))
    refine abb rfl (acR (ds:=tabsF n m F) rfl ?_)
    rw [adU]
    refine anj (lg20 (by omega)) (adx (by rw [aad,aad,aad,aad];omega) (adx (by rw [aad,aad,aad,aad,aad];omega) ?_))
    have q:=h
    unfold rpW at q
    rw [en] at q
    exact q
  · rw [show (ks.map D.str).isEmpty=false by cases ks with | nil=>exact absurd rfl e0 | cons=>rfl]
    have en:nmT ks=Txt.join " " ks:=if_neg e0
    rw [en] at nl
    refine brT ⟨⟨_,rfl⟩,al3 rfl hw (by omega) ?_⟩
    refine adx (by omega) (adx (by rw [aad];omega) ?_)
    refine ⟨rfl,rfl,_,rfl,n,m,ks,pl,F,rfl,?_⟩
    refine anj (lg20 (by omega)) (adx (by rw [aad,aad];omega) (adx (by rw [aad,aad,aad];omega) ?_))
    refine abb rfl (acR (ds:=tabsF n m F) rfl ?_)
    rw [adU]
    refine anj (lg20 (by omega)) (adx (by rw [aad,aad,aad,aad];omega) (adx (by rw [aad,aad,aad,aad,aad];omega) ?_))
    have q:=h
    unfold rpW at q
    rw [en] at q
    exact q
end
section
variable {P:Program} {w:World} {K:PySem.W.Frag} {mg:Str->Option Value} {base:Heap} {a:Nat->Addr} {d:Nat->FuncData}
theorem ajJ {z:Str} (h:nameOk z=true):okS z:=fun c hc=>by
  unfold nameOk at h
  rw [Bool.and_eq_true] at h
  exact ad4 "abcdefghijklmnopqrstuvwxyz" c (of_decide_eq_true (List.all_eq_true.mp h.2 c hc))
theorem akb {ks:List Str} {pl:Str->Nat} {n:Nat} (h:NmOk n ks pl) (hn:n<=9):Sm 267 2 2000 (.lst (ks.map fun s=>.tup [.str s,.int (pl s)])):=
  (adD (agr (m:=5) (fun x hx=>by
    obtain ⟨z,hz,rfl⟩:=List.mem_map.mp hx
    have l:=af5 (h.nm z hz)
    have p:=h.lt z hz
    have i0:Sm 267 0 268 (.int (pl z:Int)):=ahA (Nat.lt_of_le_of_lt (show (pl z:Int).natAbs<=10 by omega) (Nat.lt_of_lt_of_le (by decide:10 < 10 ^ 2) (Nat.pow_le_pow_right (by decide) (by decide))))
    exact ahz (aao (ae6 (m:=5) (ajJ (h.nm z hz)) l) (aao i0 acl))) (by rw [List.length_map];exact h.l5))).mono (by decide) (by decide)
theorem aka {n m:Nat} {ks:List Str} {pl:Str->Nat} {F:Nat->Nat->Nat->Rat} (h:NmOk n ks pl) (hn:n<=9) (m1:m<=1) (hb:∀ k i j,k<=m->i < n->j < n->Nb 800 (F k i j)):Sm 267 5 110000 (planF n m ks pl F):=
  (ahz (aao (akb h hn) (aao (adD (ahR hn m1 hb)) acl))).mono (by decide) (by decide)
theorem vlx {v:Vl} (hb:v.bare=true->rD v.q=rt v.q.num 1):ratOf v.d=some v.q/\Pl v.d:=by
  unfold Vl.d
  cases b:v.bare with
  | false=>exact ⟨akh v.q,aoA v.q⟩
  | true=>
    refine ⟨?_,afO⟩
    have h:=hb b
    have e1:((v.q.den:Nat):Int)=1:=by
      unfold rD at h
      injection h with h
      injection h with _ h
      injection h with h _
      injection h
    have e:v.q=(v.q.num:Rat):=by
      apply Rat.ext
      · rfl
      · show v.q.den=1
        omega
    show some ((v.q.num:Int):Rat)=some v.q
    rw [<- e]
theorem sol_v (v:Vl):v.d.sol=true:=by
  unfold Vl.d
  split<;>rfl
theorem ala {is:List (Nat × Nat)} {te:TDN} {sl:DSt} {fl:Fl} {Q:FT->DSt->Fl->Prop} {E:XP} {S:DSt} (c:lendC is fl sl) (nm:noMu sl=true) (e:lendSl is fl sl=S) (q:te S (fun x s1=>s1=S/\x.sol=true/\Q x sl fl) (fun cls fs s1=>s1=S/\D.solF fs=true/\E cls fs sl)):xLend is te sl fl Q E:=by
  subst e;exact ⟨c,nm,q⟩
theorem aeg {x:Option DV} {r:DSt} (h:noMu (x::r)=true):noMu r=true:=by
  cases x with
  | none=>exact h
  | some v=>cases v<;>first | exact h | cases h
theorem adR {x:Option DV} {r:DSt} (h:noBl (x::r)=true):noBl r=true:=by
  cases x with
  | none=>exact h
  | some v=>
    cases v with
    | bor o=>cases o<;>first | exact h | cases h
    | _=>exact h
theorem pickR {α:Type} (z:α) {n:Nat} {R:Nat->α->Prop} (h:∀ i,i < n->∃ q,R i q):∃ F:Nat->α,∀ i,i < n->R i (F i):=
  ⟨fun i=>if y:i < n then (h i y).choose else z,fun i hi=>by
    show R i (if y:i < n then (h i y).choose else z)
    rw [dif_pos hi];exact (h i hi).choose_spec⟩
theorem aio {ts:List FT} {n:Nat} {f:Nat->D} (h:FT.dL ts=(List.range n).map f) (s:FT.solL ts=true) (n1:1<=n):∃ t r,ts=t::r/\t.d=f 0/\t.sol=true/\FT.dL r=(List.range (n - 1)).map fun i=>f (i + 1):=by
  obtain ⟨k,rfl⟩:∃ k,n=k + 1:=⟨n - 1,by omega⟩
  rw [List.range_succ_eq_map,List.map_cons,List.map_map] at h
  cases ts with
  | nil=>rw [FT.dL] at h;cases h
  | cons t r=>
    rw [FT.dL] at h
    injection h with h1 h2
    rw [FT.solL,Bool.and_eq_true] at s
    exact ⟨t,r,rfl,h1,s.1,h2⟩
theorem at0 {α:Type} {x:α} {xs:List α}:atI (x::xs) 0=some x:=by
  unfold atI ixN
  simp
theorem ix0 {k:Nat}:ixN (k + 1) 0=some 0:=by
  unfold ixN
  simp
theorem amB (ts:List FT):(FT.dL ts).length=ts.length:=by rw [amA,List.length_map]
theorem anc {ns:List Str} (hw:∀ z∈ns,WOk z):okS (nmT ns):=by
  unfold nmT
  split
  · exact ad4 "-"
  · exact (ama hw).1
theorem apI {ns:List Str} {n m:Nat} (hw:∀ z∈ns,WOk z):okS (rpW ns n m):=ahD (ahD (ahD (ahD (ahD (ahD (ad4 "World(") (anc hw)) (ad4 ", ")) (ad4 _)) (ad4 " places, ")) (ad4 _)) (ad4 " layers)")
theorem aoG {n:Nat} {ks:List Str} {pl:Str->Nat} (nk:NmOk n ks pl):∀ z∈ks,WOk z:=fun z hz=>⟨by have:=af5 (nk.nm z hz);omega,ajJ (nk.nm z hz)⟩
theorem aor {ns:List Str} {n m:Nat} (hw:∀ z∈ns,WOk z) (l:ns.length<=5) (hn:n<=9) (hm:m<=2):(rpW ns n m).length<=4000:=by
  have nl:=ajI hw (by omega)
  have s1:("World(":Str).length=6:=rfl
  have s2:(", ":Str).length=2:=rfl
  have s3:(" places, ":Str).length=9:=rfl
  have s4:(" layers)":Str).length=8:=rfl
  have hn:=afF (b:=20) (i:=(n:Int)) (by omega)
  have hm:=afF (b:=20) (i:=(m:Int)) (by omega)
  unfold rpW
  rw [aad,aad,aad,aad,aad,aad]
  omega
theorem afb (x:Option DV) (r:DSt):noMu (x::r)=(noMu [x] && noMu r):=by
  cases x with
  | none=>rfl
  | some v=>cases v<;>rfl
theorem afc (x:Option DV) (r:DSt):noBl (x::r)=(noBl [x] && noBl r):=by
  cases x with
  | none=>rfl
  | some v=>
    cases v with
    | bor o=>cases o<;>rfl
    | _=>rfl
theorem ako {x y:Option DV} {r:DSt}:noMu (x::y::r)=true ↔ noMu [x,y]=true/\noMu r=true:=by
  rw [afb x,afb y r,afb x [y]]
  simp [and_assoc]
theorem akp {x y:Option DV} {r:DSt}:noBl (x::y::r)=true ↔ noBl [x,y]=true/\noBl r=true:=by
  rw [afc x,afc y r,afc x [y]]
  simp [and_assoc]
structure OddN (nm:List (Key × D)) (x:D):Prop where
  k:kindD x=true
  h:hasB nm x=false
  s:Sm 267 1 2000 x
theorem amh {ks:List Str} {pl:Str->Nat} {z:Str} (h:z∉ks):hasB (nmD ks pl) (.str z)=false:=by
  unfold hasB
  dsimp only
  rw [agI,if_neg h];rfl
theorem odd_n {n:Nat} {ks:List Str} {pl:Str->Nat} {x:D} {w:Str} (nk:NmOk n ks pl) (ho:w∉ks) (hw:nameOk w=true) (h:x∈[D.non,.int 3,.str "A",.str w,.tup [.str "a"],.lst [.str "a"]]):OddN (nmD ks pl) x:=by
  have s1:∀ y:Str,okS y->y.length<=5->Sm 267 0 52 (.str y):=fun y hy hl=>ae6 (m:=5) hy hl
  simp only [List.mem_cons,List.not_mem_nil,or_false] at h
  rcases h with rfl | rfl | rfl | rfl | rfl | rfl
  · exact ⟨rfl,rfl,anK.mono (by decide) (by decide)⟩
  · exact ⟨rfl,rfl,(ahA (Nat.lt_of_lt_of_le (by decide:(3:Int).natAbs < 10 ^ 2) (Nat.pow_le_pow_right (by decide) (by decide)))).mono (by decide) (by decide)⟩
  · exact ⟨rfl,amh fun hm=>absurd (nk.nm _ hm) (by decide +kernel),(s1 _ (ad4 _) (by decide)).mono (by decide) (by decide)⟩
  · exact ⟨rfl,amh ho,(s1 _ (ajJ hw) (af5 hw)).mono (by decide) (by decide)⟩
  · exact ⟨rfl,rfl,(ahz (aao (s1 _ (ad4 "a") (by decide)) acl)).mono (by decide) (by decide)⟩
  · exact ⟨rfl,rfl,(adD (aao (s1 _ (ad4 "a") (by decide)) acl)).mono (by decide) (by decide)⟩
structure BadN (m:Nat) (x:D):Prop where
  k:kindD x=true
  h:layB m x=false
  s:Sm 267 1 2000 x
theorem agB {α:Type}:∀ {l m:List α},l.Nodup->(∀ x∈l,x∈m)->m.length=l.length->l.Perm m
  | [],m,_,_,h=>by
    have:m=[]:=List.eq_nil_of_length_eq_zero h
    subst this;exact .nil
  | x::l,m,nd,hs,h=>by
    obtain ⟨a,b,rfl⟩:=List.append_of_mem (hs x (by simp))
    have nd':=List.nodup_cons.mp nd
    have ih:=agB (m:=a++b) nd'.2 (fun y hy=>by
      have:=hs y (by simp [hy])
      simp at this ⊢
      rcases this with h | h | h
      · exact .inl h
      · subst h;exact absurd hy nd'.1
      · exact .inr h) (by simp at h ⊢;omega)
    exact (ih.cons x).trans List.perm_middle.symm
abbrev pairD (pl:Str->Nat) (s:Str):D:=.tup [.str s,.int (pl s)]
theorem ai0 {pl pl2:Str->Nat}:∀ {ks ls:List Str},eqDs (ks.map (pairD pl)) (ls.map (pairD pl2))=true ↔ ks=ls/\∀ z∈ks,pl z=pl2 z
  | [],[]=>by rw [List.map_nil,List.map_nil,eqDs];simp
  | [],y::r=>by
    constructor
    · intro h;have:=af8 h;simp at this
    · intro h;cases h.1
  | z::r,[]=>by
    constructor
    · intro h;have:=af8 h;simp at this
    · intro h;cases h.1
  | z::r,y::s=>by
    have e:eqD (pairD pl z) (pairD pl2 y)=((z == y) && (((pl z:Int) == (pl2 y:Int)) && true)):=by
      rw [amm,eqDs,eqDs,eqDs];rfl
    rw [List.map_cons,List.map_cons,eqDs,Bool.and_eq_true,ai0,e]
    simp only [Bool.and_true,Bool.and_eq_true,beq_iff_eq]
    constructor
    · rintro ⟨⟨h1,h2⟩,h3,h4⟩
      subst h1;subst h3
      refine ⟨rfl,fun x hx=>?_⟩
      rcases List.mem_cons.mp hx with rfl | hx
      · exact Int.ofNat.inj h2
      · exact h4 x hx
    · rintro ⟨h1,h2⟩
      injection h1 with h1 h3
      subst h1;subst h3
      exact ⟨⟨rfl,congrArg _ (h2 z (List.mem_cons_self ..))⟩,rfl,fun x hx=>h2 x (List.mem_cons_of_mem _ hx)⟩
theorem anq {pl pl2:Str->Nat} {ks ls:List Str} (nd:ks.Nodup) (so:sortedS ks=true) (so2:sortedS ls=true):eqKD (nmD ks pl) (nmD ls pl2)=true ↔ ks=ls/\∀ z∈ks,pl z=pl2 z:=by
  constructor
  · intro h
    unfold eqKD at h
    rw [Bool.and_eq_true,List.all_eq_true] at h
    obtain ⟨h1,h2⟩:=h
    have hit:∀ z∈ks,z∈ls/\pl z=pl2 z:=fun z hz=>by
      have q:=h2 (.inr z,.int (pl z)) (List.mem_map.mpr ⟨z,hz,rfl⟩)
      unfold hitD at q
      dsimp only at q
      rw [agI] at q
      by_cases m:z∈ls
      · rw [if_pos m] at q
        exact ⟨m,Int.ofNat.inj (eq_of_beq q)⟩
      · rw [if_neg m] at q;cases q
    have ln:ls.length=ks.length:=by
      have:=eq_of_beq h1
      unfold nmD at this
      rw [List.length_map,List.length_map] at this
      exact this.symm
    have pm:=agB nd (fun z hz=>(hit z hz).1) ln
    exact ⟨aaJ so so2 pm,fun z hz=>(hit z hz).2⟩
  · rintro ⟨rfl,h⟩
    have e:nmD ks pl2=nmD ks pl:=List.map_congr_left fun z hz=>by rw [h z hz]
    rw [e];exact ajn ks pl
theorem aoz {n m:Nat} {ks ls:List Str} {pl pl2:Str->Nat} {F F2:Nat->Nat->Nat->Rat} (nd:ks.Nodup) (so:sortedS ks=true) (so2:sortedS ls=true):eqD (planF n m ks pl F) (planF n m ls pl2 F2)=(eqKD (nmD ks pl) (nmD ls pl2) && eqDs (tabsF n m F) (tabsF n m F2)):=by
  have e:eqDs (ks.map (pairD pl)) (ls.map (pairD pl2))=eqKD (nmD ks pl) (nmD ls pl2):=Bool.eq_iff_iff.mpr (ai0.trans (anq nd so so2).symm)
  rw [amm,eqDs,eqDs,eqDs,afH,afH,<- e,Bool.and_true]
theorem aj7 {n:Nat} (n1:1<=n) (n9:n<=9):TabOk n (fun _ _=>.int 0) (fun _ _=>0):=
  ⟨n1,n9,fun _ _ _ _=>afO,fun _ _ _ _=>rfl,fun _ _ _ _=>(show Nb 1 (0:Rat) from ⟨by decide,by decide⟩).mono (by decide),⟨fun _ _ _ _=>by decide,fun _ _=>rfl,fun _ _ _ _ _ _=>by grind⟩⟩
theorem two {P:Nat->Prop} (h0:P 0) (h1:P 1):∀ i,i < 2->P i
  | 0,_=>h0
  | 1,_=>h1
  | n + 2,h=>absurd h (by omega)
def cdF:Nat->Nat->Rat
  | 0,1=>1
  | _,_=>0
def cdE:Nat->Nat->D
  | 0,1=>.int 1
  | _,_=>.int 0
theorem cd_ok:TabOk 2 cdE cdF:=
  ⟨by decide,by decide,fun i j hi hj=>two (P:=fun i=>Pl (cdE i j)) (two (P:=fun j=>Pl (cdE 0 j)) afO afO j hj) (two (P:=fun j=>Pl (cdE 1 j)) afO afO j hj) i hi,
    fun i j hi hj=>two (P:=fun i=>ratOf (cdE i j)=some (cdF i j)) (two (P:=fun j=>ratOf (cdE 0 j)=some (cdF 0 j)) rfl rfl j hj) (two (P:=fun j=>ratOf (cdE 1 j)=some (cdF 1 j)) rfl rfl j hj) i hi,
    fun i j hi hj=>(two (P:=fun i=>Nb 2 (cdF i j)) (two (P:=fun j=>Nb 2 (cdF 0 j)) ⟨by decide,by decide⟩ ⟨by decide,by decide⟩ j hj) (two (P:=fun j=>Nb 2 (cdF 1 j)) ⟨by decide,by decide⟩ ⟨by decide,by decide⟩ j hj) i hi).mono (by decide),
    ⟨fun i j hi hj=>two (P:=fun i=>0<=cdF i j) (two (P:=fun j=>0<=cdF 0 j) (by decide) (by decide) j hj) (two (P:=fun j=>0<=cdF 1 j) (by decide) (by decide) j hj) i hi,
      two (P:=fun i=>cdF i i=0) rfl rfl,
      fun i j k hi hj hk=>two (P:=fun i=>cdF i j<=cdF i k + cdF k j) (two (P:=fun j=>cdF 0 j<=cdF 0 k + cdF k j) (two (P:=fun k=>cdF 0 0<=cdF 0 k + cdF k 0) (by decide +kernel) (by decide +kernel) k hk) (two (P:=fun k=>cdF 0 1<=cdF 0 k + cdF k 1) (by decide +kernel) (by decide +kernel) k hk) j hj) (two (P:=fun j=>cdF 1 j<=cdF 1 k + cdF k j) (two (P:=fun k=>cdF 1 0<=cdF 1 k + cdF k 0) (by decide +kernel) (by decide +kernel) k hk) (two (P:=fun k=>cdF 1 1<=cdF 1 k + cdF k 1) (by decide +kernel) (by decide +kernel) k hk) j hj) i hi⟩⟩
theorem cd_nb (i j:Nat) (hi:i < 2) (hj:j < 2):Nb 800 (cdF i j):=(two (P:=fun i=>Nb 2 (cdF i j)) (two (P:=fun j=>Nb 2 (cdF 0 j)) ⟨by decide,by decide⟩ ⟨by decide,by decide⟩ j hj) (two (P:=fun j=>Nb 2 (cdF 1 j)) ⟨by decide,by decide⟩ ⟨by decide,by decide⟩ j hj) i hi).mono (by decide)
theorem akn {n k:Nat} {z:Str} (hz:nameOk z=true) (h:k < n):NmOk n [z] (fun _=>k):=⟨by simp,by simp,(fun y hy=>by rw [List.mem_singleton.mp hy];exact hz),(fun _ _=>h),fun x hx y hy _=>by rw [List.mem_singleton.mp hx,List.mem_singleton.mp hy]⟩
theorem anb {n:Nat}:NmOk n [] (fun _=>0):=⟨by simp,by simp,(fun y hy=>by cases hy),(fun _ hy=>by cases hy),fun x hx=>by cases hx⟩
def cF:Nat->Nat->Nat->Rat
  | 0=>fun _ _=>0
  | _=>cdF
theorem cF_nb {m:Nat}:∀ k i j,k<=m->i < 2->j < 2->Nb 800 (cF k i j)
  | 0,_,_,_,_,_=>(show Nb 1 (0:Rat) from ⟨by decide,by decide⟩).mono (by decide)
  | _ + 1,i,j,_,hi,hj=>cd_nb i j hi hj
abbrev alJ:List Str:=["_law_script","_law_src","_law_turn","_law_names_here","_law_plan","_law_spots","_law_given","_law_world","_law_again","_law_told_here","_law_odd","_law_bad","_law_asks","_law_other","_law_flat","_law_table_here","_law_row","_law_name_z","_law_one"]
theorem acj:FnScope alJ ["_law_script"] (defScope aeS):=⟨rfl,rfl,rfl,by decide +kernel,rfl,by decide +kernel,by decide +kernel⟩
theorem aho (T:Tx P K mg base a d):Binds K (d ach) ["_law_script"] []:=ac3 T.F__law_source fun _ _ _ _ _ _ us hl=>match us,hl with | [_],_=>rfl
theorem apP (T:Tx P K mg base a d):FnR P w K mg base 22 (a aij) (d aij) ["_law_script"] (spLaw K):=by
  have G_World___bool__:FnG P w K mg base 1 (a aaP) (d aaP) ["self"] (sp1 fun me Q _=>Q (.d (.bl true))):=afC T
  have G_World___contains__:FnG P w K mg base 1 (a aam) (d aam) ["self","name"] (sp2 fun me x Q _=>∃ (tabs:List D) (nm:List (Key × D)),me=wld K tabs nm/\kindD x=true/\Q (.d (.bl (hasB nm x)))):=ac8 T
  have G_World___eq__:FnG P w K mg base 1 (a abf) (d abf) ["self","other"] (sp2 fun me ot Q _=>∃ (n m:Nat) (F:Nat->Nat->Nat->Rat) (ys:List Str) (pl:Str->Nat),me=wld K (tabsF n m F) (nmD ys pl)/\n<=9/\m<=1/\NbF n m F/\((∃ ds,ot=.tup ds/\Q (.d (.bl false)))\/∃ (n' m':Nat) (F':Nat->Nat->Nat->Rat) (ys':List Str) (pl':Str->Nat),ot=wld K (tabsF n' m' F') (nmD ys' pl')/\n'<=9/\m'<=1/\NbF n' m' F'/\Q (.d (.bl (eqKD (nmD ys pl) (nmD ys' pl') && eqDs (tabsF n m F) (tabsF n' m' F')))))):=agF T
  have G_World___init__:FnR P w K mg base 7 (a aas) (d aas) ["self","names","foot","cart"] (upIN K (He.ga K "World") (fun args Q E=>∃ nm:DV,∃ ft:D,∃ ct:D,args=[nm,.d ft,.d ct]/\NoSee nm/\(∃ (n:Nat) (e:Nat->Nat->D) (f:Nat->Nat->Rat) (ks:List Str) (val:Str->D) (fs:List (Nat->Nat->Rat)),(nm=.d (.dk (kvD ks val))\/nm=.bor (.dk (kvD ks val)))/\ft=tabX n e/\TabOk n e f/\((ct=.non/\fs=[])\/∃ (e':Nat->Nat->D) (f':Nat->Nat->Rat),ct=tabX n e'/\TabOk n e' f'/\fs=[f'])/\(∀ z∈ks,(val z).sol=true)/\NmDo K n ks val (fun ys=>∀ t:FT,t.d=wld K (tabL n f::fs.map (tabL n)) (kvD ys val)->t.sol=true->Q t) E))):=adG T
  have G_World___len__:FnG P w K mg base 1 (a aaX) (d aaX) ["self"] (sp1 fun me Q _=>∃ (n:Nat) (f:Nat->Nat->Rat) (tabs:List D) (nm:List (Key × D)),me=wld K (tabL n f::tabs) nm/\Q (.d (.int n))):=afY T
  have G_World___repr__:FnG P w K mg base 4 (a aaO) (d aaO) ["self"] (sp1 fun me Q _=>∃ (n:Nat) (f:Nat->Nat->Rat) (tabs:List D) (ks:List Str) (val:Str->D),me=wld K (tabL n f::tabs) (kvD ks val)/\n<=9/\tabs.length<=1/\ks.length<=9/\(∀ z∈ks,WOk z)/\∀ ys:List Str,ys.Perm ks->sortedS ys=true->Q (.d (.str (rpW ys n (tabs.length + 1))))):=afB T
  have G_World_layers:FnG P w K mg base 1 (a aap) (d aap) ["self"] (sp1 fun me Q _=>∃ (tabs:List D) (nm:List (Key × D)),me=wld K tabs nm/\Q (.d (.int tabs.length))):=acO T
  have G_World_names:FnG P w K mg base 1 (a aaC) (d aaC) ["self"] (sp1 fun me Q _=>∃ (tabs:List D) (ks:List Str) (val:Str->D),me=wld K tabs (kvD ks val)/\ks.length < 64/\∀ ys:List Str,ys.Perm ks->sortedS ys=true->Q (.own (.lst (ys.map .str)))):=adC T
  have G_World_place:FnG P w K mg base 3 (a aaK) (d aaK) ["self","name"] (sp2 fun me x Q E=>∃ (tabs:List D) (ks:List Str) (val:Str->D),me=wld K tabs (kvD ks val)/\kindD x=true/\(hasB (kvD ks val) x=false->E (.ref (He.ga K "UnknownName")) (abQ x))/\∀ z∈ks,x=.str z->Q (.d (val z))):=aeN T
  have G_World_size:FnG P w K mg base 1 (a abe) (d abe) ["self"] (sp1 fun me Q _=>∃ (n:Nat) (f:Nat->Nat->Rat) (tabs:List D) (nm:List (Key × D)),me=wld K (tabL n f::tabs) nm/\Q (.d (.int n))):=afa T
  have G_World_table:FnR P w K mg base 5 (a aaB) (d aaB) ["self","layer"] (upSN K (fun args Q E=>∃ me:D,∃ x:D,args=[.d me,.d x]/\(∃ (n:Nat) (f:Nat->Nat->Rat) (fs:List (Nat->Nat->Rat)) (nm:List (Key × D)),me=wld K (tabL n f::fs.map (tabL n)) nm/\n<=9/\fs.length<=1/\kindD x=true/\(layB (fs.length + 1) x=false->E (.ref (He.ga K "InvalidLayer")) (aaS x))/\(layB (fs.length + 1) x=true->∀ g,(f::fs)[layIx x]?=some g->∀ t:FT,t.d=tabL n g->t.sol=true->Q t)))):=aeM T
  have G__law_bare:FnG P w K mg base 2 (a acd) (d acd) ["_law_src","_law_one"] (sr1 fun x Q _=>∃ q:Rat,x=rD q/\∀ v:Vl,v.q=q->(v.bare=true->rD v.q=rt v.q.num 1)->Q (.d v.d)):=ai9 T
  have G__law_draw:FnG P w K mg base 1 (a aar) (d aar) ["_law_src","_law_many"] (spDraw):=acz T
  have G__law_made:FnG P w K mg base 9 (a aca) (d aca) ["_law_plan"] (sp1 fun x Q _=>∃ (n m:Nat) (ks:List Str) (pl:Str->Nat) (F:Nat->Nat->Nat->Rat),x=planF n m ks pl F/\1<=n/\n<=9/\m<=1/\NmOk n ks pl/\(∀ k,k<=m->GoodF n (F k)/\∀ i j,i < n->j < n->Nb 1900 (F k i j))/\∀ ys:List Str,ys.Perm ks->sortedS ys=true->Q (.d (wld K (tabsF n m F) (nmD ys pl)))):=ai7 T
  have G__law_names:FnG P w K mg base 3 (a abG) (d abG) ["_law_src","_law_many"] (fun args Q E=>∃ x:D,args=[.src,.d x]/\(∃ m:Nat,x=.int m/\m<=26/\∀ ns:List Str,ns.length=m->ns.Nodup->(∀ z∈ns,nameOk z=true)->Q (.own (.lst (ns.map .str))))):=ah7 T
  have G__law_of:FnG P w K mg base 2 (a acm) (d acm) ["_law_src","_law_some"] (spOf):=ahE T
  have G__law_places_of:FnG P w K mg base 1 (a aax) (d aax) ["_law_plan"] (sp1 fun x Q _=>∃ (n m:Nat) (ks:List Str) (pl:Str->Nat) (F:Nat->Nat->Nat->Rat),x=planF n m ks pl F/\Q (.d (.int (n:Int)))):=adF T
  have G__law_same:FnG P w K mg base 1 (a ab8) (d ab8) ["_law_found","_law_due"] (spSame):=ai5 T
  have G__law_shown:FnG P w K mg base 2 (a abF) (d abF) ["_law_plan"] (sp1 fun x Q _=>∃ (n m:Nat) (ks:List Str) (pl:Str->Nat) (F:Nat->Nat->Nat->Rat),x=planF n m ks pl F/\n<=9/\m<=1/\NmOk n ks pl/\(∀ z∈ks,WOk z)/\Q (.d (.str (rpW ks n (m + 1))))):=ah6 T
  have G__law_spread_plan:FnG P w K mg base 5 (a aaz) (d aaz) ["_law_src","_law_names_here","_law_size","_law_layers"] (fun args Q E=>∃ x:D,∃ y:D,∃ z:D,args=[.src,.d x,.d y,.d z]/\(∃ (ns:List Str) (n m:Nat),x=.lst (ns.map .str)/\y=.int n/\z=.int m/\ns.length<=5/\ns.Nodup/\(∀ s∈ns,nameOk s=true)/\1<=n/\n<=5/\m<=2/\∀ (ks:List Str) (pl:Str->Nat) (fs:List (Nat->Nat->Rat)),ks.Perm (ns.take n)->NmOk n ks pl->sortedS ks=true->fs.length=m->(∀ g∈fs,TabQ n g)->Q (.d (planD n ks pl fs)))):=aeW T
  have G__law_told:FnG P w K mg base 7 (a ab7) (d ab7) ["_law_world"] (sp1 fun me Q _=>∃ (n m:Nat) (F:Nat->Nat->Nat->Rat) (ys:List Str) (pl:Str->Nat),me=wld K (tabsF n m F) (nmD ys pl)/\n<=9/\m<=1/\ys.length<=5/\sortedS ys=true/\Q (.d (planF n m ys pl F))):=ai4 T
  obtain ⟨cc,hcc,hmem⟩:=aoN T.F_law (by decide)
  refine apa T.F_law acj (fun vs H Q E h=>?_) (fun cdv hcd A outer s H vs Q E hr hg h=>?_)
  · obtain ⟨c,ns,rfl,_⟩:=h;rfl
  · obtain ⟨c,ns,rfl,hS,hlen,htb,huq,q⟩:=h
    have hcode:cdv=.ref cc:=hcd.symm.trans hcc
    refine ⟨_,pss_cons (ps_set (i:=1) acj.nd rfl (Or.inr rfl) (am5 (ahe T) (hr.mono (by decide)) hg (by rfl) T.m__law_source T.F__law_source.kp (aho T) (pa_cons (pv 0) pa_nil)))
      (up_ss (fun cls d _ H=>E cls d H) (aak (aeo (passes_of rfl) rfl (acy (by rfl) T.n_range (aaa aaf aab)) (aaw (i:=2) acj.nd rfl (Or.inl rfl)) (aak (abV (i:=3) acj.nd rfl (Or.inl rfl) (aag G__law_names (hr.mono (by decide)) hg (tkOf rfl rfl rfl rfl) (aht T) (by rfl) T.m__law_names T.F__law_names.kp (aaa (aac (pv 1)) (aaa aaf aab))))
      (aak (abV (i:=4) acj.nd rfl (Or.inl rfl) (aag G__law_spread_plan (hr.mono (by decide)) hg (tkOf rfl rfl rfl rfl) (adh T) (by rfl) T.m__law_spread_plan T.F__law_spread_plan.kp (aaa (aac (pv 1)) (aaa (ajo (aae (pv 3)) aeq (aep (aag G__law_draw (hr.mono (by decide)) hg (tkOf rfl rfl rfl rfl) (aav T) (by rfl) T.m__law_draw T.F__law_draw.kp (aaa (aac (pv 1)) (aaa aaf aab))))) (aaa (adb aaf (aag G__law_draw (hr.mono (by decide)) hg (tkOf rfl rfl rfl rfl) (aav T) (by rfl) T.m__law_draw T.F__law_draw.kp (aaa (aac (pv 1)) (aaa aaf aab)))) (aaa (adb aaf (aag G__law_draw (hr.mono (by decide)) hg (tkOf rfl rfl rfl rfl) (aav T) (by rfl) T.m__law_draw T.F__law_draw.kp (aaa (aac (pv 1)) (aaa aaf aab)))) aab))))))
      (aak (abV (i:=5) acj.nd rfl (Or.inl rfl) (anx rfl (by rfl) T.n_dict (aaa (aat ix_seq aai (aae (pv 4)) aaf (fun _ _=>rfl)) aab)))
      (amo (n:=5) (aco (anl (i:=6) (own:=[("_law_table_here",15)]) rfl acj.nd rfl rfl (sw_true rfl rfl rfl (by decide +kernel)) (acE (aat ix_seq aai (aae (pv 4)) aaf (fun _ _=>rfl))) (blkOk_by (own:=[("_law_table_here",15)]) (N:=alJ) (sc:=(defScope aeS)) (by decide +kernel)) (fun _ _ _ _ _=>(aaw (i:=15) acj.nd rfl (Or.inl rfl))) (fun _ _ _ _ _=>aa5) (fun _ _ _ _ _=>(apk (own:=[("_law_row",16)]) rfl acj.nd (acE (aac (pv 15))) (blkOk_by (own:=[("_law_row",16)]) (N:=alJ) (sc:=_) (by kernel_rfl)) (fun _ _ _ _ _=>(aaw (i:=16) acj.nd rfl (Or.inl rfl))) (fun _ _ _ _ _=>aa5) (fun _ _ _ _ _=>(amr (aet (own:=[("_law_one",18)]) rfl acj.nd (acE (aac (pv 16))) (blkOk_by (own:=[("_law_one",18)]) (N:=alJ) (sc:=_) (by kernel_rfl)) (fun _ _ _ _ _=>(aaw (i:=18) acj.nd rfl (Or.inl rfl))) (fun _ _ _ _ _=>aa5) (fun _ _ _ _ _=>(aag G__law_bare (hr.mono (by decide)) hg adl (aiE T) (by rfl) T.m__law_bare T.F__law_bare.kp (aaa (aac (pv 1)) (aaa (aac (pv 18)) aab))))))))))
      (aco (ao9 (i:=7) acj.nd rfl (Or.inr rfl) (ape (apl (i:=5) (afk T.mk_World G_World___init__ (hr.mono (by decide)) hg (tkOf rfl rfl rfl rfl) (aaL T) rfl (by rfl) T.m_World (aaa (aac (pv 5)) (aaa (aat ix_seq aai (aae (pv 6)) aaf (fun _ _=>rfl)) aab)) (ae0 (afm (abA (abP hr.units) adn (aah call_len aa0 (by rfl) T.n_len PySem.boot_len (aaa (aae (pv 6)) aab)) aaf (nomark _)) (aat ix_seq aai (aae (pv 6)) aaf (fun _ _=>rfl)) aer) agU))) [(6,0)]))
      (aco (aim (amq hr.units (pv 5) aa7 aaf))
      (aco (aqh (anm (anm (agP (pv 6)) pe_int (fun _ _=>rfl)) pe_int (fun _ _=>rfl)) aaf (ahl (agT aer)))
      (afG (akB (anm (agP (pv 6)) pe_int (fun _ _=>rfl)) (ahl (agT aer))))))))
      (aak (aeo (passes_of rfl) rfl (acy (by rfl) T.n_range (aaa aaf aab)) (aaw (i:=8) acj.nd rfl (Or.inl rfl)) (aak (adt (DW.dt (ahm (adg (ada (aag G__law_same (hr.mono (by decide)) hg (tkOf rfl rfl rfl rfl) (ad0 T) (by rfl) T.m__law_same T.F__law_same.kp (aaa (aag G__law_told (hr.mono (by decide)) hg (tkOf rfl rfl rfl rfl) (aiB T) (by rfl) T.m__law_told T.F__law_told.kp (aaa (aac (pv 7)) aab)) (aaa (aac (pv 4)) aab))))) (agR (adg (ada (aag G__law_same (hr.mono (by decide)) hg (tkOf rfl rfl rfl rfl) (ad0 T) (by rfl) T.m__law_same T.F__law_same.kp (aaa (abt (aaa (ae1 (aac (pv 7)) T.cl_World T.pr_World_size G_World_size (hr.mono (by decide)) hg (afo T)) (aaa (ae1 (aac (pv 7)) T.cl_World T.pr_World_layers G_World_layers (hr.mono (by decide)) hg (ace T)) (aaa (aah (amH T.me_World___len__ G_World___len__ (hr.mono (by decide)) hg (af3 T)) amX (by rfl) T.n_len PySem.boot_len (aaa (aac (pv 7)) aab)) (aaa (adY (ak9 T.me_World___bool__ G_World___bool__ (hr.mono (by decide)) hg (afK T)) alq (by rfl) T.n_bool (by decide +kernel) (aaa (aac (pv 7)) aab)) (aaa (aah (ak6 T.me_World___repr__ G_World___repr__ (hr.mono (by decide)) hg (afJ T)) alj (by rfl) T.n_repr (by decide +kernel) (aaa (aac (pv 7)) aab)) aab)))))) (aaa (abt (aaa (aag G__law_places_of (hr.mono (by decide)) hg (tkOf rfl rfl rfl rfl) (abW T) (by rfl) T.m__law_places_of T.F__law_places_of.kp (aaa (aac (pv 4)) aab)) (aaa (aah call_len aa0 (by rfl) T.n_len PySem.boot_len (aaa (aat ix_seq aai (aae (pv 4)) aaf (fun _ _=>rfl)) aab)) (aaa (aag G__law_places_of (hr.mono (by decide)) hg (tkOf rfl rfl rfl rfl) (abW T) (by rfl) T.m__law_places_of T.F__law_places_of.kp (aaa (aac (pv 4)) aab)) (aaa aev (aaa (aag G__law_shown (hr.mono (by decide)) hg (tkOf rfl rfl rfl rfl) (ahs T) (by rfl) T.m__law_shown T.F__law_shown.kp (aaa (aac (pv 4)) aab)) aab)))))) aab)))))))) (aaj (aan aev)) ack)
      (amo (n:=3) (aco (an0 (i:=9) acj.nd rfl (Or.inl rfl) (ahl (anu (aac (pv 7)) T.cl_World T.me_World_table G_World_table (hr.mono (by decide)) hg (tkOf rfl rfl rfl rfl) (ag1 T))))
      (aco (akB (anm (agP (pv 9)) pe_int (fun _ _=>rfl)) (ahl (agT aa7)))
      (afG (akB (agP (pv 9)) (ahl (agT aa7))))))
      (aaj (api (aga (aac (pv 7)) T.cl_World T.me_World_names G_World_names (hr.mono (by decide)) hg (tkOf rfl rfl rfl rfl) (acQ T)) aa7)))))
      (aak (abV (i:=10) acj.nd rfl (Or.inr rfl) (aag G__law_of (hr.mono (by decide)) hg (tkOf rfl rfl rfl rfl) (ae3 T) (by rfl) T.m__law_of T.F__law_of.kp (aaa (aac (pv 1)) (aaa (abt (aaa aer (aaa aaf (aaa aa7 (aaa (aat ix_seq aai (aae (pv 3)) aaf (fun _ _=>rfl)) (aaa (acT (aaa aa7 aab)) (aaa (abt (aaa aa7 aab)) aab))))))) aab))))
      (aak (abV (i:=11) acj.nd rfl (Or.inr rfl) (aag G__law_of (hr.mono (by decide)) hg (tkOf rfl rfl rfl rfl) (ae3 T) (by rfl) T.m__law_of T.F__law_of.kp (aaa (aac (pv 1)) (aaa (abt (aaa aer (aaa aaf (aaa aa7 (aaa (abt (aaa aa7 aab)) (aaa (afm (abA (abP hr.units) adn (ae1 (aac (pv 7)) T.cl_World T.pr_World_layers G_World_layers (hr.mono (by decide)) hg (ace T)) aaf (nomark _)) aa7 aa7) aab)))))) aab))))
      (aak (abV (i:=12) acj.nd rfl (Or.inl rfl) (abt (aaa (amx T (k:=18) hmem hcode (hr.mono (by decide)) hg (.none rfl rfl (fun _ _ _ _ _ _ _ _=>rfl)) (alX (xs:=[]) (by decide +kernel)) (fun A outer s H E f c' hr hg=>(amu (aac (pv 7)) T.cl_World T.me_World_place G_World_place (hr.mono (by decide)) hg (tkOf rfl rfl rfl rfl) (aeH T) (ae0 (aac (pv 10)) agU)))) (aaa (amx T (k:=18) hmem hcode (hr.mono (by decide)) hg (.one rfl rfl (fun _ _ _ _ _ _ _ _ _ _=>⟨_,rfl,rfl⟩)) (alX (xs:=["_law_a"]) (by decide +kernel)) (fun A outer s H E f c' hr hg=>(agV (ams (aac (pv 7)) T.cl_World T.me_World_table G_World_table (hr.mono (by decide)) hg (tkOf rfl rfl rfl rfl) (aex T) (ae0 (aac (pv 11)) agU))))) (aaa (acn (anU T.me_World___contains__ G_World___contains__ (hr.mono (by decide)) hg (acf T)) (ajz (K:=K) (n:=false)) (aac (pv 10)) (aac (pv 7)) (by rfl)) (aaa (aet (own:=[("_law_name_z",17)]) rfl acj.nd (acE (aga (aac (pv 7)) T.cl_World T.me_World_names G_World_names (hr.mono (by decide)) hg (tkOf rfl rfl rfl rfl) (acQ T))) (blkOk_by (own:=[("_law_name_z",17)]) (N:=alJ) (sc:=(defScope aeS)) (by decide +kernel)) (fun _ _ _ _ _=>(aaw (i:=17) acj.nd rfl (Or.inl rfl))) (fun _ _ _ _ _=>aa5) (fun _ _ _ _ _=>(acn (anU T.me_World___contains__ G_World___contains__ (hr.mono (by decide)) hg (acf T)) (ajz (K:=K) (n:=false)) (aac (pv 17)) (aac (pv 7)) (by rfl)))) aab))))))
      (aak (adt (adg (ada (aag G__law_same (hr.mono (by decide)) hg (tkOf rfl rfl rfl rfl) (ad0 T) (by rfl) T.m__law_same T.F__law_same.kp (aaa (aac (pv 12)) (aaa (abt (aaa (acT (aaa aa7 (aaa (aac (pv 10)) aab))) (aaa (acT (aaa aa7 (aaa (aac (pv 11)) aab))) (aaa aev (aaa (aes (abt (aaa aev aab)) (aah call_len aa0 (by rfl) T.n_len PySem.boot_len (aaa (aat ix_seq aai (aae (pv 4)) aaf (fun _ _=>rfl)) aab))) aab))))) aab))))) (aaj (aan aev)) ack)
      (aak (abV (i:=13) acj.nd rfl (Or.inl rfl) (aag G__law_spread_plan (hr.mono (by decide)) hg (tkOf rfl rfl rfl rfl) (adh T) (by rfl) T.m__law_spread_plan T.F__law_spread_plan.kp (aaa (aac (pv 1)) (aaa (ajo (aae (pv 3)) aeq (aep (aag G__law_draw (hr.mono (by decide)) hg (tkOf rfl rfl rfl rfl) (aav T) (by rfl) T.m__law_draw T.F__law_draw.kp (aaa (aac (pv 1)) (aaa aaf aab))))) (aaa (aag G__law_places_of (hr.mono (by decide)) hg (tkOf rfl rfl rfl rfl) (abW T) (by rfl) T.m__law_places_of T.F__law_places_of.kp (aaa (aac (pv 4)) aab)) (aaa (aah call_len aa0 (by rfl) T.n_len PySem.boot_len (aaa (aat ix_seq aai (aae (pv 4)) aaf (fun _ _=>rfl)) aab)) aab))))))
      (aaj (adt (abA (aeC hr.units) ahB (abt (aaa (acn (ahC T.me_World___eq__ G_World___eq__ (hr.mono (by decide)) hg (aaY T)) (adu (K:=K) (n:=false)) (aac (pv 7)) (aag G__law_made (hr.mono (by decide)) hg (tkOf rfl rfl rfl rfl) (ad1 T) (by rfl) T.m__law_made T.F__law_made.kp (aaa (aac (pv 4)) aab)) (nomark _)) (aaa (acn (anT T.ci_World T.me_World___eq__ G_World___eq__ (hr.mono (by decide)) hg (aaY T)) (adu (K:=K) (n:=true)) (aac (pv 7)) (aag G__law_made (hr.mono (by decide)) hg (tkOf rfl rfl rfl rfl) (ad1 T) (by rfl) T.m__law_made T.F__law_made.kp (aaa (aac (pv 4)) aab)) (nomark _)) (aaa (acn (ahC T.me_World___eq__ G_World___eq__ (hr.mono (by decide)) hg (aaY T)) (adu (K:=K) (n:=false)) (aac (pv 7)) (aag G__law_made (hr.mono (by decide)) hg (tkOf rfl rfl rfl rfl) (ad1 T) (by rfl) T.m__law_made T.F__law_made.kp (aaa (aac (pv 13)) aab)) (nomark _)) (aaa (acn (ahC T.me_World___eq__ G_World___eq__ (hr.mono (by decide)) hg (aaY T)) (adu (K:=K) (n:=false)) (aac (pv 7)) (aac (pv 4)) (nomark _)) aab))))) (abt (aaa aev (aaa aev (aaa (acn (abP hr.units) adn (aae (pv 4)) (aae (pv 13)) (nomark _)) (aaa aev aab))))) (nomark _)) (aaj (aan aev)) ack)))))))))))))
      (aak (abV (i:=14) acj.nd rfl (Or.inl rfl) (abt (aaa (abt (aaa aaf (aaa aaf aab))) (aaa (abt (aaa aaf (aaa aaf aab))) aab))))
      (aak (adt (abA (aeC hr.units) ahB (abt (aaa (acn (ahC T.me_World___eq__ G_World___eq__ (hr.mono (by decide)) hg (aaY T)) (adu (K:=K) (n:=false)) (agV (agS T.mk_World G_World___init__ (hr.mono (by decide)) hg (tkOf rfl rfl rfl rfl) (abu T) rfl (by rfl) T.m_World (aaa (air (cs:=[("a",0)]) (pps_cons pe_str pe_int pps_nil) rfl rfl (by simp) (by decide) (by decide) (by rfl)) (aaa (aac (pv 14)) aab)))) (agV (agS T.mk_World G_World___init__ (hr.mono (by decide)) hg (tkOf rfl rfl rfl rfl) (abu T) rfl (by rfl) T.m_World (aaa (air (cs:=[("a",1)]) (pps_cons pe_str pe_int pps_nil) rfl rfl (by simp) (by decide) (by decide) (by rfl)) (aaa (aac (pv 14)) aab)))) (nomark _)) (aaa (acn (ahC T.me_World___eq__ G_World___eq__ (hr.mono (by decide)) hg (aaY T)) (adu (K:=K) (n:=false)) (agV (agS T.mk_World G_World___init__ (hr.mono (by decide)) hg (tkOf rfl rfl rfl rfl) (abu T) rfl (by rfl) T.m_World (aaa (air (cs:=[("a",0)]) (pps_cons pe_str pe_int pps_nil) rfl rfl (by simp) (by decide) (by decide) (by rfl)) (aaa (aac (pv 14)) aab)))) (agV (agS T.mk_World G_World___init__ (hr.mono (by decide)) hg (tkOf rfl rfl rfl rfl) (abu T) rfl (by rfl) T.m_World (aaa (air (cs:=[("b",0)]) (pps_cons pe_str pe_int pps_nil) rfl rfl (by simp) (by decide) (by decide) (by rfl)) (aaa (aac (pv 14)) aab)))) (nomark _)) aab))) (abt (aaa aev (aaa aev aab))) (nomark _)) (aaj (aan aev)) ack)
      (aak (adt (abA (ahC T.me_World___eq__ G_World___eq__ (hr.mono (by decide)) hg (aaY T)) (adu (K:=K) (n:=false)) (agV (afk T.mk_World G_World___init__ (hr.mono (by decide)) hg (tkOf rfl rfl rfl rfl) (aaL T) rfl (by rfl) T.m_World (aaa aiq (aaa (aac (pv 14)) aab)) (ae0 (aac (pv 14)) agU))) (agV (afk T.mk_World G_World___init__ (hr.mono (by decide)) hg (tkOf rfl rfl rfl rfl) (aaL T) rfl (by rfl) T.m_World (aaa aiq (aaa (aac (pv 14)) aab)) (ae0 (abt (aaa (abt (aaa aaf (aaa aaf aab))) (aaa (abt (aaa aaf (aaa aaf aab))) aab))) agU))) (nomark _)) (aaj (aan aev)) ack)
      (aaj (aan (afn (acn (abP hr.units) adn (apr T.cc_World_MOST (pe_glob (by rfl) T.m_World rfl)) aaf (nomark _)) (afl (acn (anT T.ci_World T.me_World___eq__ G_World___eq__ (hr.mono (by decide)) hg (aaY T)) (adu (K:=K) (n:=true)) (agV (agS T.mk_World G_World___init__ (hr.mono (by decide)) hg (tkOf rfl rfl rfl rfl) (abu T) rfl (by rfl) T.m_World (aaa aiq (aaa (abt (aaa (abt (aaa aaf aab)) aab)) aab)))) (agV (afk T.mk_World G_World___init__ (hr.mono (by decide)) hg (tkOf rfl rfl rfl rfl) (aaL T) rfl (by rfl) T.m_World (aaa aiq (aaa (abt (aaa (abt (aaa aaf aab)) aab)) aab)) (ae0 (abt (aaa (abt (aaa aaf aab)) aab)) agU))) (nomark _))))))))))),?_⟩
    refine ⟨.ref c,rfl,c,ns,rfl,hS,hlen,fun H' p c' ms sd ex cp hp hc hm h0 h1=>?_⟩
    refine apZ 19 1 rfl rfl q cp hp hc hm h0 h1 (fun q hq=>ex _ _ (htb q hq)) huq ?_
    have hz:szl=16777216:=rfl
    refine aaT (fun s=>∃ a2 a3 a4 a5 a6 a7 a8 a9 a10 a11 a12 a13 a14,s=[none,some .src,a2,a3,a4,a5,a6,a7,a8,a9,a10,a11,a12,a13,a14,none,none,none,none]) (fun N' hN'=>?_) (fun s hs=>?_)
    · refine ads (by decide) (by decide) ?_
      refine adW (fun s=>∃ a2 a3 a4 a5 a6 a7 a8 a9 a10 a11 a12 a13 a14,noMu [a7,a8,a9,a10,a11,a12,a13,a14,none,none,none,none]=true/\noBl [a7,a8,a9,a10,a11,a12,a13,a14,none,none,none,none]=true/\s=[none,some .src,a2,a3,a4,a5,a6,a7,a8,a9,a10,a11,a12,a13,a14,none,none,none,none]) _ _ ⟨_,_,_,_,_,_,_,_,_,_,_,_,_,rfl,rfl,rfl⟩ (fun N d s hN hd hs=>?_) (fun s ⟨a2,a3,a4,a5,a6,a7,a8,a9,a10,a11,a12,a13,a14,_,_,e⟩=>hN' s ⟨a2,a3,a4,a5,a6,a7,a8,a9,a10,a11,a12,a13,a14,e⟩)
      obtain ⟨a2,a3,a4,a5,a6,a7,a8,a9,a10,a11,a12,a13,a14,nmu,nbl,rfl⟩:=hs
      refine aiL ?_
      refine ⟨rfl,rfl,_,rfl,6,rfl,by decide,fun ns h2 h3 h4=>?_⟩
      refine ajy (s':=[none,some .src,some (.d d),some (.own (.lst (ns.map .str))),a4,a5,a6,a7,a8,a9,a10,a11,a12,a13,a14,none,none,none,none]) rfl ?_
      refine aiL ?_
      refine ⟨rfl,rfl,_,rfl,by decide,by decide,fun c0 c1 c2=>?_⟩
      refine alY (ds:=ns.map .str) rfl ?_
      have ek:c0=((c0.toNat:Nat):Int):=by omega
      rw [ek,aew,<- List.map_take]
      refine ⟨rfl,rfl,_,rfl,by decide,by decide,fun k0 k1 k2=>?_⟩
      refine afg ?_
      refine ⟨rfl,rfl,_,rfl,by decide,by decide,fun j0 j1 j2=>?_⟩
      refine afg ?_
      obtain ⟨n,en⟩:∃ n:Nat,1 + k0=(n:Int):=⟨(1 + k0).toNat,by omega⟩
      obtain ⟨m,em⟩:∃ m:Nat,1 + j0=((m + 1:Nat):Int):=⟨j0.toNat,by omega⟩
      rw [en,em]
      have n1:1<=n:=by omega
      have n5:n<=5:=by omega
      have m1:m<=1:=by omega
      refine ⟨rfl,rfl,_,_,_,rfl,ns.take c0.toNat,n,m + 1,rfl,rfl,rfl,by rw [List.length_take];omega,h3.sublist (List.take_sublist _ _),fun s hs=>h4 s (List.mem_of_mem_take hs),n1,by omega,by omega,fun ks pl fs kp nk kso fl hf=>?_⟩
      obtain ⟨F,rfl⟩:=an4 fl
      have hF:∀ k,k<=m->TabQ n (F k):=fun k hk=>hf _ (List.mem_map.mpr ⟨k,List.mem_range.mpr (by omega),rfl⟩)
      have ep:planD n ks pl ((List.range (m + 1)).map F)=planF n m ks pl F:=by
        show D.tup [_,D.lst (((List.range (m + 1)).map F).map (tabD n))]=D.tup [_,D.lst _]
        rw [List.map_map];rfl
      rw [ep]
      refine anL (s':=[none,some .src,some (.d d),some (.own (.lst (ns.map .str))),some (.d (planF n m ks pl F)),a5,a6,a7,a8,a9,a10,a11,a12,a13,a14,none,none,none,none]) rfl ?_
      refine aiL ?_
      refine abb rfl ?_
      refine aoY rfl (ah2 pl ks) ?_
      rw [ajh nk.nd]
      refine ajy (s':=[none,some .src,some (.d d),some (.own (.lst (ns.map .str))),some (.d (planF n m ks pl F)),some (.own (.dk (nmD ks pl))),a6,a7,a8,a9,a10,a11,a12,a13,a14,none,none,none,none]) rfl ?_
      have nbT:∀ k i j,k<=m->i < n->j < n->Nb 1900 (F k i j):=fun k i j hk hi hj=>((hF k hk).nb i j hi hj).mono (by decide)
      have gF:∀ k,k<=m->GoodF n (F k):=fun k hk=>(hF k hk).gd
      refine aaT (fun s=>∃ kv5 r6,s=[none,some .src,some (.d d),some (.own (.lst (ns.map .str))),some (.d (planF n m ks pl F)),some (.own (.dk kv5)),some (.d (.raw (.ref r6))),some (.d (wld K (tabsF n m F) (nmD ks pl))),a8,a9,a10,a11,a12,a13,a14,none,none,none,none]) (fun N1 hN1=>?_) (fun s hs=>?_)
      · refine acp (fun s fl=>∃ a ts,FT.solL ts=true/\(∃ es:Nat->D,FT.dL ts=(List.range (m + 1)).map es/\∀ k,k < m + 1->∃ e,es k=tabX n e/\TabOk n e (F k))/\fl=[.lst a ts]/\s=[none,some .src,some (.d d),some (.own (.lst (ns.map .str))),some (.d (planF n m ks pl F)),some (.own (.dk (nmD ks pl))),some (.d (.raw (.ref a))),a7,a8,a9,a10,a11,a12,a13,a14,none,none,none,none]) (fun N2 hN2=>?_) (fun s fl hs=>?_)
        · refine abb rfl (abx ?_)
          refine aii (fun k=>tabL n (F k)) (fun k x=>∃ e,x=tabX n e/\TabOk n e (F k)) [none,some .src,some (.d d),some (.own (.lst (ns.map .str))),some (.d (planF n m ks pl F)),some (.own (.dk (nmD ks pl))),a6,a7,a8,a9,a10,a11,a12,a13,a14,none,none,none,none] (by omega) (fun k hk M A hM=>?_) (fun es hes ts e1 e2 C=>?_)
          · refine brT ?_
            refine abx ?_
            refine aii (fun i=>rowX n fun j=>rD (F k i j)) (fun i x=>∃ e:Nat->D,x=rowX n e/\∀ j,j < n->Pl (e j)/\ratOf (e j)=some (F k i j)) [none,some .src,some (.d d),some (.own (.lst (ns.map .str))),some (.d (planF n m ks pl F)),some (.own (.dk (nmD ks pl))),a6,a7,a8,a9,a10,a11,a12,a13,a14,some (.d (tabL n (F k))),none,none,none] (by omega) (fun i hi M' A' hM'=>?_) (fun es hes ts e1 e2 C=>hM _ ?_ ?_)
            · refine brT ?_
              refine abx ?_
              refine aku (fun j=>rD (F k i j)) (fun j x=>Pl x/\ratOf x=some (F k i j)/\x.sol=true) [none,some .src,some (.d d),some (.own (.lst (ns.map .str))),some (.d (planF n m ks pl F)),some (.own (.dk (nmD ks pl))),a6,a7,a8,a9,a10,a11,a12,a13,a14,some (.d (tabL n (F k))),some (.d (rowX n fun j=>rD (F k i j))),none,none] (by omega) (fun j hj M2 A2 hM2=>?_) (fun e he=>?_)
              · refine brT ?_
                exact ⟨rfl,rfl,_,rfl,F k i j,rfl,fun v hv hb=>hM2 _ ⟨(vlx hb).2,by rw [(vlx hb).1,hv],sol_v v⟩⟩
              · refine ⟨_,rfl,fun a=>hM' _ ⟨e,?_,fun j hj=>⟨(he j hj).1,(he j hj).2.1⟩⟩ ?_⟩
                · rw [ait];rfl
                · refine aft ((aen _).mpr fun y hy=>?_)
                  obtain ⟨j,hj,rfl⟩:=List.mem_map.mp hy
                  exact (he j (List.mem_range.mp hj)).2.2
            · obtain ⟨e,he⟩:=pickR (fun _=>D.non) hes
              refine ⟨e,?_,n1,by omega,fun i j hi hj=>((he i hi).2 j hj).1,fun i j hi hj=>((he i hi).2 j hj).2,fun i j hi hj=>nbT k i j (by omega) hi hj,gF k (by omega)⟩
              rw [amz,e1]
              exact congrArg D.lst (List.map_congr_left fun i hi=>(he i (List.mem_range.mp hi)).1)
            · rw [ahP];exact e2
          · exact hN2 _ _ ⟨C,ts,e2,⟨es,e1,hes⟩,rfl,rfl⟩
        obtain ⟨a,ts,st,⟨es,e1,hes⟩,rfl,rfl⟩:=hs
        obtain ⟨E0,hE⟩:=pickR (fun _ _=>D.non) hes
        refine acp (fun s fl=>fl=[.lst a ts]/\s=[none,some .src,some (.d d),some (.own (.lst (ns.map .str))),some (.d (planF n m ks pl F)),some (.own (.dk (nmD ks pl))),some (.d (.raw (.ref a))),some (.d (wld K (tabsF n m F) (nmD ks pl))),a8,a9,a10,a11,a12,a13,a14,none,none,none,none]) (fun N2 hN2=>?_) (fun s fl hs=>?_)
        · refine ala (S:=[none,some .src,some (.d d),some (.own (.lst (ns.map .str))),some (.d (planF n m ks pl F)),some (.own (.dk (nmD ks pl))),some (.d (.lst ((List.range (m + 1)).map es))),a7,a8,a9,a10,a11,a12,a13,a14,none,none,none,none]) ⟨⟨_,_,rfl,rfl,rfl⟩,trivial⟩ nmu (by show List.set _ 6 (some (DV.d (FT.lst a ts).d))=_;rw [amz,e1];rfl) ?_
          refine ⟨_,rfl,?_⟩
          refine aej (ds:=(List.range (m + 1)).map es) (d:=es 0) rfl (akL (i:=0) (by omega)) ?_
          refine acR (ds:=(List.range (m + 1)).map es) rfl ?_
          refine aff ?_
          rw [List.length_map,List.length_range]
          rcases (by omega:m=0\/m=1) with rfl | rfl
          · refine brF ?_
            refine ⟨rfl,rfl,_,_,_,rfl,(fun _ z=>by cases z),n,E0 0,F 0,ks,(fun z=>.int (pl z)),[],.inr rfl,(hE 0 (by omega)).1,(hE 0 (by omega)).2,.inl ⟨rfl,rfl⟩,(fun _ _=>rfl),adf nk fun ys hp hs t et es'=>⟨rfl,rfl,es',hN2 _ _ ⟨rfl,?_⟩⟩⟩
            rw [et,aaJ hs kso hp];rfl
          · refine brT ?_
            refine aej (ds:=(List.range (1 + 1)).map es) (d:=es 1) rfl (akL (i:=1) (by omega)) ?_
            refine ⟨rfl,rfl,_,_,_,rfl,(fun _ z=>by cases z),n,E0 0,F 0,ks,(fun z=>.int (pl z)),[F 1],.inr rfl,(hE 0 (by omega)).1,(hE 0 (by omega)).2,.inr ⟨E0 1,F 1,(hE 1 (by omega)).1,(hE 1 (by omega)).2,rfl⟩,(fun _ _=>rfl),adf nk fun ys hp hs t et es'=>⟨rfl,rfl,es',hN2 _ _ ⟨rfl,?_⟩⟩⟩
            rw [et,aaJ hs kso hp];rfl
        obtain ⟨rfl,rfl⟩:=hs
        have m9:m + 1<=2:=by omega
        obtain ⟨t0,tr,rfl,d0,s0,_⟩:=aio e1 st (by omega)
        rw [(hE 0 (by omega)).1] at d0
        obtain ⟨b,xs,rfl,d1,s1⟩:=FT.lst_of d0 s0
        obtain ⟨x0,xr,rfl,d2,s2,d2r⟩:=aio d1 s1 n1
        obtain ⟨c,ys,rfl,d3,s3⟩:=FT.lst_of d2 s2
        obtain ⟨y0,yr,rfl,_,_,_⟩:=aio d3 s3 n1
        have xl:xr.length<=9:=by rw [<- amB,d2r,List.length_map,List.length_range];omega
        refine acp (fun s fl=>fl=[.lst a (.lst b (.lst c (y0::yr)::xr)::tr)]/\∃ kv,s=[none,some .src,some (.d d),some (.own (.lst (ns.map .str))),some (.d (planF n m ks pl F)),some (.own (.dk kv)),some (.d (.raw (.ref a))),some (.d (wld K (tabsF n m F) (nmD ks pl))),a8,a9,a10,a11,a12,a13,a14,none,none,none,none]) (fun N2 hN2=>?_) (fun s fl hs=>?_)
        · refine ⟨⟨_,rfl⟩,?_,hN2 _ _ ⟨rfl,_,rfl⟩⟩
          show (nmD ks pl).length < szl
          unfold nmD
          rw [List.length_map]
          have:=nk.l5
          omega
        obtain ⟨rfl,kv,rfl⟩:=hs
        have nb8:=adR nbl
        refine acp (fun s fl=>fl=[.lst a (.lst b (.lst c (.leaf .non::yr)::xr)::tr)]/\s=[none,some .src,some (.d d),some (.own (.lst (ns.map .str))),some (.d (planF n m ks pl F)),some (.own (.dk kv)),some (.d (.raw (.ref a))),some (.d (wld K (tabsF n m F) (nmD ks pl))),a8,a9,a10,a11,a12,a13,a14,none,none,none,none]) (fun N2 hN2=>?_) (fun s fl hs=>?_)
        · refine ⟨_,rfl,?_⟩
          refine ⟨a,rfl,[0],_,_,b,rfl,at0,rfl,?_⟩
          refine ⟨[0,0],_,_,c,rfl,at0,rfl,?_⟩
          exact ⟨0,[0,0,0],_,0,_,rfl,rfl,ix0,rfl,nb8,hN2 _ _ ⟨rfl,rfl⟩⟩
        obtain ⟨rfl,rfl⟩:=hs
        refine ⟨a,rfl,[0],_,_,b,rfl,at0,rfl,⟨[0,0],_,rfl⟩,?_⟩
        exact ⟨_,rfl,[0,0],_,rfl,nb8,by show xr.length + 1 < szl;omega,hN1 _ ⟨_,_,rfl⟩⟩
      obtain ⟨kv5,r6,rfl⟩:=hs
      have hw:=aoG nk
      have n8:∀ k i j,k<=m->i < n->j < n->Nb 800 (F k i j):=fun k i j hk hi hj=>(((hF k hk).ln i j hi hj).nb (k:=40) (by decide) (by decide) (by decide)).mono (by decide)
      have nmu10:=aeg (aeg (aeg nmu))
      have nbl10:=adR (adR (adR nbl))
      have tsp:=acU n m F
      have tlen:((List.range m).map fun k=>tabL n (F (k + 1))).length=m:=by rw [List.length_map,List.length_range]
      refine aaT (fun s=>∃ b8 b9,noMu [b8,b9]=true/\noBl [b8,b9]=true/\s=[none,some .src,some (.d d),some (.own (.lst (ns.map .str))),some (.d (planF n m ks pl F)),some (.own (.dk kv5)),some (.d (.raw (.ref r6))),some (.d (wld K (tabsF n m F) (nmD ks pl))),b8,b9,a10,a11,a12,a13,a14,none,none,none,none]) (fun N1 hN1=>?_) (fun s hs=>?_)
      · refine ads (by decide) (by decide) ?_
        refine adW (fun s=>∃ b8 b9,noMu [b8,b9]=true/\noBl [b8,b9]=true/\s=[none,some .src,some (.d d),some (.own (.lst (ns.map .str))),some (.d (planF n m ks pl F)),some (.own (.dk kv5)),some (.d (.raw (.ref r6))),some (.d (wld K (tabsF n m F) (nmD ks pl))),b8,b9,a10,a11,a12,a13,a14,none,none,none,none]) _ _ ⟨a8,a9,?_,?_,rfl⟩ (fun N2 d2 s hN2 hd2 hs=>?_) hN1
        · exact (ako.mp (aeg nmu)).1
        · exact (akp.mp (adR nbl)).1
        obtain ⟨b8,b9,_,_,rfl⟩:=hs
        refine aaT (fun s=>s=[none,some .src,some (.d d),some (.own (.lst (ns.map .str))),some (.d (planF n m ks pl F)),some (.own (.dk kv5)),some (.d (.raw (.ref r6))),some (.d (wld K (tabsF n m F) (nmD ks pl))),some (.d d2),b9,a10,a11,a12,a13,a14,none,none,none,none]) (fun N3 hN3=>?_) (fun s hs=>?_)
        · refine ⟨rfl,rfl,_,rfl,n,m,F,ks,pl,rfl,by omega,m1,nk.l5,kso,?_⟩
          refine ⟨rfl,rfl,?_⟩
          refine alt rfl (aao (akb nk (by omega)) (aao (adD (ahR (by omega) m1 n8)) acl)) ?_
          refine abo (brF ?_)
          refine ⟨rfl,_,rfl,n,F 0,_,nmD ks pl,by rw [tsp],?_⟩
          refine ⟨rfl,_,rfl,tabsF n m F,nmD ks pl,rfl,?_⟩
          rw [adU]
          refine ap2 ⟨_,rfl,n,F 0,_,nmD ks pl,by rw [tsp],?_⟩
          refine ⟨⟨by omega,by omega⟩,?_⟩
          refine aoZ ⟨_,rfl,?_⟩
          refine aoP ⟨_,rfl,n,F 0,_,ks,(fun z=>.int (pl z)),by rw [tsp];rfl,by omega,by rw [List.length_map,List.length_map,List.length_range];exact m1,by have:=nk.l5;omega,hw,fun ys hp hs=>?_⟩
          rw [aaJ hs kso hp,List.length_map,List.length_map,List.length_range]
          refine acG rfl rfl ?_
          refine ⟨rfl,rfl,_,rfl,n,m,ks,pl,F,rfl,?_⟩
          refine abb rfl (acR (ds:=tabsF n m F) rfl ?_)
          rw [adU]
          refine ⟨rfl,rfl,_,rfl,n,m,ks,pl,F,rfl,?_⟩
          refine ⟨rfl,rfl,_,rfl,n,m,ks,pl,F,rfl,by omega,m1,nk,hw,?_⟩
          refine acG rfl rfl ?_
          refine ⟨rfl,rfl,?_⟩
          have i0:∀ k:Nat,k<=9->Sm 267 0 268 (.int (k:Int)):=fun k hk=>ahA (Nat.lt_of_le_of_lt (show (k:Int).natAbs<=10 by omega) (Nat.lt_of_lt_of_le (by decide:10 < 10 ^ 2) (Nat.pow_le_pow_right (by decide) (by decide))))
          refine aiU rfl (aao (i0 n (by omega)) (aao (i0 (m + 1) (by omega)) (aao (i0 n (by omega)) (aao ahS (aao (ae6 (m:=4000) (apI hw) (aor hw nk.l5 (by omega) (by omega))) acl))))) ?_
          exact abo (brF (hN3 _ rfl))
        subst hs
        refine aaT (fun s=>∃ b9,noMu [b9]=true/\noBl [b9]=true/\s=[none,some .src,some (.d d),some (.own (.lst (ns.map .str))),some (.d (planF n m ks pl F)),some (.own (.dk kv5)),some (.d (.raw (.ref r6))),some (.d (wld K (tabsF n m F) (nmD ks pl))),some (.d d2),b9,a10,a11,a12,a13,a14,none,none,none,none]) (fun N3 hN3=>?_) (fun s hs=>?_)
        · refine acp (fun s fl=>∃ a b xs tr,xs.length<=9/\tr.length<=9/\fl=[.lst a (.lst b xs::tr)]/\s=[none,some .src,some (.d d),some (.own (.lst (ns.map .str))),some (.d (planF n m ks pl F)),some (.own (.dk kv5)),some (.d (.raw (.ref r6))),some (.d (wld K (tabsF n m F) (nmD ks pl))),some (.d d2),some (.d (.raw (.ref a))),a10,a11,a12,a13,a14,none,none,none,none]) (fun N4 hN4=>?_) (fun s fl hs=>?_)
          · refine ⟨rfl,rfl,rfl,rfl,_,_,rfl,n,F 0,(List.range m).map (fun k=>F (k + 1)),nmD ks pl,by rw [acU],by omega,by rw [List.length_map,List.length_range];exact m1,rfl,(fun z=>?_),fun _ g eg t et es=>?_⟩
            · have l0:=(aoM (k:=0) (by omega) m1).1
              rw [List.length_map,List.length_range] at z
              rw [show D.str "foot"=D.str (if (0:Nat)=0 then "foot" else "cart") from rfl,l0] at z;cases z
            · have l1:=(aoM (k:=0) (m:=m) (by omega) m1).2
              rw [show D.str "foot"=D.str (if (0:Nat)=0 then "foot" else "cart") from rfl,l1] at eg
              cases eg
              obtain ⟨a,ts,rfl,e1,s1⟩:=FT.lst_of et es
              obtain ⟨t0,tr,rfl,d0,s0,d0r⟩:=aio e1 s1 n1
              obtain ⟨b,xs,rfl,d1,s1'⟩:=FT.lst_of d0 s0
              refine hN4 _ _ ⟨a,b,xs,tr,?_,?_,rfl,rfl⟩
              · rw [<- amB,d1,List.length_map,List.length_range];omega
              · rw [<- amB,d0r,List.length_map,List.length_range];omega
          obtain ⟨a,b,xs,tr,x9,t9,rfl,rfl⟩:=hs
          refine acp (fun s fl=>∃ xs,fl=[.lst a (.lst b xs::tr)]/\s=[none,some .src,some (.d d),some (.own (.lst (ns.map .str))),some (.d (planF n m ks pl F)),some (.own (.dk kv5)),some (.d (.raw (.ref r6))),some (.d (wld K (tabsF n m F) (nmD ks pl))),some (.d d2),some (.d (.raw (.ref a))),a10,a11,a12,a13,a14,none,none,none,none]) (fun N4 hN4=>?_) (fun s fl hs=>?_)
          · refine ⟨a,rfl,[0],_,_,b,rfl,at0,rfl,⟨[0,0],_,rfl⟩,?_⟩
            exact ⟨_,rfl,[0,0],_,rfl,nbl10,by omega,hN4 _ _ ⟨_,rfl,rfl⟩⟩
          obtain ⟨xs',rfl,rfl⟩:=hs
          refine ⟨a,rfl,⟨[0],_,rfl⟩,?_⟩
          exact ⟨_,rfl,[0],_,rfl,nbl10,by show tr.length + 1 < szl;omega,hN3 _ ⟨_,rfl,rfl,rfl⟩⟩
        obtain ⟨b9,nm9,nb9,rfl⟩:=hs
        refine ⟨rfl,rfl,rfl,rfl,_,rfl,tabsF n m F,ks,(fun z=>.int (pl z)),rfl,by have:=nk.l5;omega,fun ys hp hs=>⟨?_,hN2 _ ⟨some (.d d2),b9,nm9,nb9,rfl⟩⟩⟩
        rw [List.length_map,hp.length_eq]
        have:=nk.l5
        omega
      obtain ⟨b8,b9,nm89,nb89,rfl⟩:=hs
      have l5:5 < ns.length:=by omega
      have out5:ns[5]∉ks:=fun hm=>by
        have h1:=List.mem_of_mem_take (kp.mem_iff.mp hm)
        obtain ⟨i,hi,e⟩:=List.mem_iff_getElem.mp h1
        rw [List.length_take] at hi
        rw [List.getElem_take] at e
        exact (List.pairwise_iff_getElem.mp h3 i 5 (by omega) l5 (by omega)) e
      refine adL (OddN (nmD ks pl)) (fun Q hQ=>?_) (fun odd ho=>?_)
      · refine aej (ds:=ns.map .str) (d:=.str ns[5]) rfl (ajr (i:=5) (List.getElem?_eq_getElem l5)) ?_
        refine aeG rfl rfl (acG rfl rfl (acG rfl rfl ?_))
        exact ⟨rfl,rfl,_,rfl,(fun o z=>by cases z),(by show 0 < 6;decide),(by show 6<=szl;decide),fun x hx=>hQ _ (odd_n nk out5 (h4 _ (List.getElem_mem l5)) hx)⟩
      refine adL (BadN (m + 1)) (fun Q hQ=>?_) (fun bad hb=>?_)
      · refine acG rfl rfl ?_
        refine ⟨rfl,_,rfl,tabsF n m F,nmD ks pl,rfl,?_⟩
        rw [adU]
        refine aff ?_
        have fin:∀ w:Str,layB (m + 1) (.str w)=false->Sm 267 1 2000 (.str w)->∀ x∈[D.non,.int 0,.str "Foot",.lst [.str "foot"],.str w],BadN (m + 1) x:=fun w hw sw x hx=>by
          simp only [List.mem_cons,List.not_mem_nil,or_false] at hx
          rcases hx with rfl | rfl | rfl | rfl | rfl
          · exact ⟨rfl,rfl,anK.mono (by decide) (by decide)⟩
          · exact ⟨rfl,rfl,(ahA (Nat.lt_of_lt_of_le (by decide:(0:Int).natAbs < 10 ^ 2) (Nat.pow_le_pow_right (by decide) (by decide)))).mono (by decide) (by decide)⟩
          · refine ⟨rfl,?_,(ae6 (m:=5) (ad4 _) (by decide)).mono (by decide) (by decide)⟩
            rcases (by omega:m=0\/m=1) with rfl | rfl<;>decide +kernel
          · exact ⟨rfl,rfl,(adD (aao (ae6 (m:=5) (ad4 "foot") (by decide)) acl)).mono (by decide) (by decide)⟩
          · exact ⟨rfl,hw,sw⟩
        rcases (by omega:m=0\/m=1) with rfl | rfl
        · refine brT (acG rfl rfl ?_)
          exact ⟨rfl,rfl,_,rfl,(fun o z=>by cases z),(by show 0 < 5;decide),(by show 5<=szl;decide),fun x hx=>hQ _ (fin "cart" (by decide +kernel) ((ae6 (m:=5) (ad4 _) (by decide)).mono (by decide) (by decide)) x hx)⟩
        · refine brF (acG rfl rfl ?_)
          exact ⟨rfl,rfl,_,rfl,(fun o z=>by cases z),(by show 0 < 5;decide),(by show 5<=szl;decide),fun x hx=>hQ _ (fin "" (by decide +kernel) ((ae6 (m:=5) (ad4 _) (by decide)).mono (by decide) (by decide)) x hx)⟩
      have yesN:∀ z∈ks,hasB (nmD ks pl) (.str z)=true:=fun z hz=>by
        unfold hasB
        dsimp only
        rw [agI,if_pos hz];rfl
      refine aeB [.tup [.str "UnknownName",odd],.tup [.str "InvalidLayer",bad],.bl false,.lst (ks.map fun _=>.bl true)] (fun Q hQ=>?_) ?_
      · refine ⟨rfl,rfl,rfl,rfl,_,_,rfl,tabsF n m F,ks,(fun z=>.int (pl z)),rfl,ho.k,(fun hh=>?_),fun z hz e=>?_⟩
        · refine ⟨_,"UnknownName",[odd],rfl,T.xe_UnknownName,rfl,rfl,?_⟩
          refine ⟨rfl,rfl,rfl,rfl,_,_,rfl,n,F 0,(List.range m).map (fun k=>F (k + 1)),nmD ks pl,by rw [acU],by omega,by rw [List.length_map,List.length_range];exact m1,hb.k,(fun z=>?_),fun z=>?_⟩
          · refine ⟨_,"InvalidLayer",[bad],rfl,T.xe_InvalidLayer,rfl,rfl,?_⟩
            refine aoV ⟨_,_,rfl,_,_,rfl,ho.k,?_⟩
            rw [ho.h]
            refine ⟨rfl,rfl,rfl,rfl,_,rfl,tabsF n m F,ks,(fun z=>.int (pl z)),rfl,by have:=nk.l5;omega,fun ys hp hs=>?_⟩
            rw [aaJ hs kso hp]
            refine abx ?_
            refine adr (fun _=>.bl true) [none,some .src,some (.d d),some (.own (.lst (ns.map .str))),some (.d (planF n m ks pl F)),some (.own (.dk kv5)),some (.d (.raw (.ref r6))),some (.d (wld K (tabsF n m F) (nmD ks pl))),b8,b9,some (.d odd),some (.d bad),a12,a13,a14,none,none,none,none] (by have:=nk.l5;rw [List.length_map];omega) (fun d hd M A mm=>?_) ?_
            · obtain ⟨z,hz1,rfl⟩:=List.mem_map.mp hd
              refine brT ?_
              refine aoV ⟨_,_,rfl,_,_,rfl,rfl,?_⟩
              rw [yesN z hz1]
              exact mm
            · rw [List.map_map]
              exact acG rfl rfl hQ
          · rw [List.length_map,List.length_range,hb.h] at z;cases z
        · subst e
          have:=ho.h
          rw [yesN z hz] at this;cases this
      have mkl:∀ t:List D,t.length=ks.length->t.length<=5:=fun t h=>by have:=nk.l5;omega
      have eL:(List.replicate (((ks.map fun s=>D.tup [.str s,.int (pl s)]).length:Int)).toNat [D.bl true]).flatten=ks.map fun _=>D.bl true:=by
        rw [List.length_map,Int.toNat_natCast,List.map_const']
        exact List.flatten_replicate_singleton
      have s5:∀ y:Str,okS y->y.length<=13->Sm 267 0 132 (.str y):=fun y hy hl=>ae6 (m:=13) hy hl
      have sbl:Sm 267 1 2000 (.lst (ks.map fun _=>D.bl true)):=(adD (agr (m:=5) (d:=0) (w:=5) (fun x hx=>by
        obtain ⟨_,_,rfl⟩:=List.mem_map.mp hx
        exact ahS) (by rw [List.length_map];exact nk.l5))).mono (by decide) (by decide)
      refine aaT (fun s=>∃ b12,noMu [b12]=true/\noBl [b12]=true/\s=[none,some .src,some (.d d),some (.own (.lst (ns.map .str))),some (.d (planF n m ks pl F)),some (.own (.dk kv5)),some (.d (.raw (.ref r6))),some (.d (wld K (tabsF n m F) (nmD ks pl))),b8,b9,some (.d odd),some (.d bad),b12,a13,a14,none,none,none,none]) (fun N2 hN2=>?_) (fun s hs=>?_)
      · refine aeG rfl rfl (aeG rfl rfl (acG rfl rfl (abb rfl (acR (ds:=ks.map fun s=>D.tup [.str s,.int (pl s)]) rfl ?_))))
        refine ap1 (ds:=[.bl true]) rfl (by omega) (by rw [List.length_map];have:=nk.l5;omega) (by rw [List.length_map];have:=nk.l5;show 1 * _<=szl;omega) ?_
        rw [eL]
        refine acG rfl rfl ?_
        refine ⟨rfl,rfl,?_⟩
        refine aiU rfl (aao (ahz (aao (s5 _ (ad4 _) (by decide)) (aao ho.s acl))) (aao (ahz (aao (s5 _ (ad4 _) (by decide)) (aao hb.s acl))) (aao ahS (aao sbl acl)))) ?_
        exact abo (brF (hN2 _ ⟨_,rfl,rfl,rfl⟩))
      obtain ⟨b12,nm12,nb12,rfl⟩:=hs
      refine aiL ?_
      refine ⟨rfl,rfl,_,rfl,by decide,by decide,fun q0 q1 q2=>?_⟩
      refine alY (ds:=ns.map .str) rfl ?_
      have eq0:q0=((q0.toNat:Nat):Int):=by omega
      rw [eq0,aew,<- List.map_take]
      refine ⟨rfl,rfl,_,rfl,n,m,ks,pl,F,rfl,?_⟩
      refine abb rfl (acR (ds:=tabsF n m F) rfl ?_)
      rw [adU]
      refine ⟨rfl,rfl,_,_,_,rfl,ns.take q0.toNat,n,m + 1,rfl,rfl,rfl,by rw [List.length_take];omega,h3.sublist (List.take_sublist _ _),fun s hs=>h4 s (List.mem_of_mem_take hs),n1,by omega,by omega,fun ls pl2 fs2 _ nk2 lso fl2 hf2=>?_⟩
      obtain ⟨F2,rfl⟩:=an4 fl2
      have hF2:∀ k,k<=m->TabQ n (F2 k):=fun k hk=>hf2 _ (List.mem_map.mpr ⟨k,List.mem_range.mpr (by omega),rfl⟩)
      have ep2:planD n ls pl2 ((List.range (m + 1)).map F2)=planF n m ls pl2 F2:=by
        show D.tup [_,D.lst (((List.range (m + 1)).map F2).map (tabD n))]=D.tup [_,D.lst _]
        rw [List.map_map];rfl
      rw [ep2]
      refine anL (s':=[none,some .src,some (.d d),some (.own (.lst (ns.map .str))),some (.d (planF n m ks pl F)),some (.own (.dk kv5)),some (.d (.raw (.ref r6))),some (.d (wld K (tabsF n m F) (nmD ks pl))),b8,b9,some (.d odd),some (.d bad),b12,some (.d (planF n m ls pl2 F2)),a14,none,none,none,none]) rfl ?_
      have n82:∀ k i j,k<=m->i < n->j < n->Nb 800 (F2 k i j):=fun k i j hk hi hj=>(((hF2 k hk).ln i j hi hj).nb (k:=40) (by decide) (by decide) (by decide)).mono (by decide)
      have gFn:∀ k,k<=m->GoodF n (F k)/\∀ i j,i < n->j < n->Nb 1900 (F k i j):=fun k hk=>⟨gF k hk,fun i j hi hj=>nbT k i j hk hi hj⟩
      have gFn2:∀ k,k<=m->GoodF n (F2 k)/\∀ i j,i < n->j < n->Nb 1900 (F2 k i j):=fun k hk=>⟨(hF2 k hk).gd,fun i j hi hj=>((hF2 k hk).nb i j hi hj).mono (by decide)⟩
      have e7:(eqKD (nmD ks pl) (nmD ks pl) && eqDs (tabsF n m F) (tabsF n m F))=true:=by
        rw [ajn,adJ _ (Pls.of fun d hd=>by
          obtain ⟨k,_,rfl⟩:=List.mem_map.mp hd
          exact anR (Pls.of fun d hd=>by
            obtain ⟨i,_,rfl⟩:=List.mem_map.mp hd
            exact anR (Pls.of fun d hd=>by
              obtain ⟨j,_,rfl⟩:=List.mem_map.mp hd
              exact aoA _)))]
        rfl
      obtain ⟨eb,he⟩:∃ eb,(eqKD (nmD ks pl) (nmD ls pl2) && eqDs (tabsF n m F) (tabsF n m F2))=eb:=⟨_,rfl⟩
      refine ⟨rfl,rfl,_,rfl,n,m,ks,pl,F,rfl,n1,by omega,m1,nk,gFn,fun ys hp hs=>?_⟩
      rw [aaJ hs kso hp]
      refine afQ T.ci_World (.inl ⟨_,rfl⟩) ?_
      refine ⟨_,_,rfl,n,m,F,ks,pl,rfl,by omega,m1,n8,.inr ⟨n,m,F,ks,pl,rfl,by omega,m1,n8,?_⟩⟩
      rw [e7]
      refine ⟨rfl,rfl,_,rfl,n,m,ks,pl,F,rfl,n1,by omega,m1,nk,gFn,fun ys hp hs=>?_⟩
      rw [aaJ hs kso hp]
      refine afQ T.ci_World (.inl ⟨_,rfl⟩) ?_
      refine ⟨_,_,rfl,n,m,F,ks,pl,rfl,by omega,m1,n8,.inr ⟨n,m,F,ks,pl,rfl,by omega,m1,n8,?_⟩⟩
      rw [e7]
      refine ⟨rfl,rfl,_,rfl,n,m,ls,pl2,F2,rfl,n1,by omega,m1,nk2,gFn2,fun ys hp hs=>?_⟩
      rw [aaJ hs lso hp]
      refine afQ T.ci_World (.inl ⟨_,rfl⟩) ?_
      refine ⟨_,_,rfl,n,m,F,ks,pl,rfl,by omega,m1,n8,.inr ⟨n,m,F2,ls,pl2,rfl,by omega,m1,n82,?_⟩⟩
      rw [he]
      refine afQ T.ci_World (.inr rfl) ?_
      refine ⟨_,_,rfl,n,m,F,ks,pl,rfl,by omega,m1,n8,.inl ⟨_,rfl,?_⟩⟩
      refine acG rfl rfl ?_
      refine al6 (n:=false) (d:=planF n m ks pl F) (e:=planF n m ls pl2 F2) rfl rfl (aka nk (by omega) m1 n8).sh (aka nk2 (by omega) m1 n82).sh ?_
      rw [aoz nk.nd kso lso,he]
      refine acG rfl rfl ?_
      have shb:∀ a b c d:Bool,∃ p,(D.lst [.bl a,.bl b,.bl c,.bl d]).py=some p/\SeqAt.shaped p=true:=fun a b c d=>(adD (b:=20) (aao ahS (aao ahS (aao ahS (aao ahS acl))))).sh
      refine al6 (n:=true) (d:=.lst [.bl true,.bl false,.bl eb,.bl false]) (e:=.lst [.bl true,.bl false,.bl eb,.bl false]) rfl rfl (shb _ _ _ _) (shb _ _ _ _) ?_
      rw [afH,adJ _ (adv akT (adv akT (adv akT (adv akT ajE))))]
      refine brF (hN _ ⟨_,_,_,_,_,_,_,_,_,_,_,_,_,?_,?_,rfl⟩)
      · refine (ako (x:=b8) (y:=b9)).mpr ⟨nm89,?_⟩
        show noMu (b12::some (.d _)::a14::[none,none,none,none])=true
        rw [afb b12,nm12]
        show noMu [a14,none,none,none,none]=true
        exact aeg (aeg (aeg (aeg nmu10)))
      · refine (akp (x:=b8) (y:=b9)).mpr ⟨nb89,?_⟩
        show noBl (b12::some (.d _)::a14::[none,none,none,none])=true
        rw [afc b12,nb12]
        show noBl [a14,none,none,none,none]=true
        exact adR (adR (adR (adR nbl10)))
    obtain ⟨a2,a3,a4,a5,a6,a7,a8,a9,a10,a11,a12,a13,a14,rfl⟩:=hs
    refine aiL ?_
    refine acG rfl rfl (acG rfl rfl (acG rfl rfl ?_))
    refine ajy (s':=[none,some .src,a2,a3,a4,a5,a6,a7,a8,a9,a10,a11,a12,a13,some (.own (.lst [.lst [.int 0,.int 0],.lst [.int 0,.int 0]])),none,none,none,none]) rfl ?_
    have zz:TabOk 2 (fun _ _=>D.int 0) (fun _ _=>0):=aj7 (by decide) (by decide)
    have z1:TabOk 1 (fun _ _=>D.int 0) (fun _ _=>0):=aj7 (by decide) (by decide)
    have z0:∀ {n m:Nat} (k i j:Nat),k<=m->i < n->j < n->Nb 800 (0:Rat):=fun _ _ _ _ _ _=>(show Nb 1 (0:Rat) from ⟨by decide,by decide⟩).mono (by decide)
    have na:nameOk "a"=true:=by decide +kernel
    have nb:nameOk "b"=true:=by decide +kernel
    refine aaT (fun s=>s=[none,some .src,a2,a3,a4,a5,a6,a7,a8,a9,a10,a11,a12,a13,some (.d (.lst [.lst [.int 0,.int 0],.lst [.int 0,.int 0]])),none,none,none,none]) (fun N hN=>?_) (fun s hs=>?_)
    · skip
      refine ⟨rfl,rfl,_,_,_,rfl,(fun _ z=>by cases z),2,(fun _ _=>D.int 0),(fun _ _=>(0:Rat)),[("a":Str)],(fun z=>.int ((fun _=>0) z)),[],.inl rfl,rfl,zz,.inl ⟨rfl,rfl⟩,(fun _ _=>rfl),adf (akn na (by decide)) fun ys hp hs t et _=>?_⟩
      have e1:t.d=wld K (tabsF 2 0 (fun _ _ _=>(0:Rat))) (nmD [("a":Str)] (fun _=>0)):=by rw [et,aaJ hs (by decide +kernel) hp];rfl
      dsimp only
      rw [e1]
      clear e1 et hp hs
      refine ⟨rfl,rfl,_,_,_,rfl,(fun _ z=>by cases z),2,(fun _ _=>D.int 0),(fun _ _=>(0:Rat)),[("a":Str)],(fun z=>.int ((fun _=>1) z)),[],.inl rfl,rfl,zz,.inl ⟨rfl,rfl⟩,(fun _ _=>rfl),adf (akn na (by decide)) fun ys hp hs t et _=>?_⟩
      have e1:t.d=wld K (tabsF 2 0 (fun _ _ _=>(0:Rat))) (nmD [("a":Str)] (fun _=>1)):=by rw [et,aaJ hs (by decide +kernel) hp];rfl
      dsimp only
      rw [e1]
      clear e1 et hp hs
      refine afQ T.ci_World (.inl ⟨_,rfl⟩) ?_
      refine ⟨_,_,rfl,2,0,(fun _ _ _=>(0:Rat)),[("a":Str)],(fun _=>0),rfl,by decide,by decide,z0,.inr ⟨2,0,(fun _ _ _=>(0:Rat)),[("a":Str)],(fun _=>1),rfl,by decide,by decide,z0,?_⟩⟩
      rw [show (eqKD (nmD [("a":Str)] (fun _=>0)) (nmD [("a":Str)] (fun _=>1)) && eqDs (tabsF 2 0 (fun _ _ _=>(0:Rat))) (tabsF 2 0 (fun _ _ _=>(0:Rat))))=false from by decide +kernel]
      refine ⟨rfl,rfl,_,_,_,rfl,(fun _ z=>by cases z),2,(fun _ _=>D.int 0),(fun _ _=>(0:Rat)),[("a":Str)],(fun z=>.int ((fun _=>0) z)),[],.inl rfl,rfl,zz,.inl ⟨rfl,rfl⟩,(fun _ _=>rfl),adf (akn na (by decide)) fun ys hp hs t et _=>?_⟩
      have e1:t.d=wld K (tabsF 2 0 (fun _ _ _=>(0:Rat))) (nmD [("a":Str)] (fun _=>0)):=by rw [et,aaJ hs (by decide +kernel) hp];rfl
      dsimp only
      rw [e1]
      clear e1 et hp hs
      refine ⟨rfl,rfl,_,_,_,rfl,(fun _ z=>by cases z),2,(fun _ _=>D.int 0),(fun _ _=>(0:Rat)),[("b":Str)],(fun z=>.int ((fun _=>0) z)),[],.inl rfl,rfl,zz,.inl ⟨rfl,rfl⟩,(fun _ _=>rfl),adf (akn nb (by decide)) fun ys hp hs t et _=>?_⟩
      have e1:t.d=wld K (tabsF 2 0 (fun _ _ _=>(0:Rat))) (nmD [("b":Str)] (fun _=>0)):=by rw [et,aaJ hs (by decide +kernel) hp];rfl
      dsimp only
      rw [e1]
      clear e1 et hp hs
      refine afQ T.ci_World (.inl ⟨_,rfl⟩) ?_
      refine ⟨_,_,rfl,2,0,(fun _ _ _=>(0:Rat)),[("a":Str)],(fun _=>0),rfl,by decide,by decide,z0,.inr ⟨2,0,(fun _ _ _=>(0:Rat)),[("b":Str)],(fun _=>0),rfl,by decide,by decide,z0,?_⟩⟩
      rw [show (eqKD (nmD [("a":Str)] (fun _=>0)) (nmD [("b":Str)] (fun _=>0)) && eqDs (tabsF 2 0 (fun _ _ _=>(0:Rat))) (tabsF 2 0 (fun _ _ _=>(0:Rat))))=false from by decide +kernel]
      refine acG rfl rfl (acG rfl rfl ?_)
      have shb:∃ p,(D.lst [.bl false,.bl false]).py=some p/\SeqAt.shaped p=true:=(adD (b:=20) (aao ahS (aao ahS acl))).sh
      refine al6 (n:=true) (d:=.lst [.bl false,.bl false]) (e:=.lst [.bl false,.bl false]) rfl rfl shb shb ?_
      rw [afH,adJ _ (adv akT (adv akT ajE))]
      exact brF (hN _ rfl)
    subst hs
    refine aaT (fun s=>s=[none,some .src,a2,a3,a4,a5,a6,a7,a8,a9,a10,a11,a12,a13,some (.d (.lst [.lst [.int 0,.int 0],.lst [.int 0,.int 0]])),none,none,none,none]) (fun N hN=>?_) (fun s hs=>?_)
    · skip
      refine ⟨rfl,rfl,_,_,_,rfl,(fun _ z=>by cases z),2,(fun _ _=>D.int 0),(fun _ _=>(0:Rat)),([]:List Str),(fun z=>.int ((fun _=>0) z)),[(fun _ _=>(0:Rat))],.inl rfl,rfl,zz,.inr ⟨(fun _ _=>D.int 0),(fun _ _=>(0:Rat)),rfl,zz,rfl⟩,(fun _ _=>rfl),adf anb fun ys hp hs t et _=>?_⟩
      have e1:t.d=wld K (tabsF 2 1 (fun _ _ _=>(0:Rat))) (nmD ([]:List Str) (fun _=>0)):=by rw [et,aaJ hs (by decide +kernel) hp];rfl
      dsimp only
      rw [e1]
      clear e1 et hp hs
      refine acG rfl rfl (acG rfl rfl (acG rfl rfl ?_))
      refine ⟨rfl,rfl,_,_,_,rfl,(fun _ z=>by cases z),2,(fun _ _=>D.int 0),(fun _ _=>(0:Rat)),([]:List Str),(fun z=>.int ((fun _=>0) z)),[cdF],.inl rfl,rfl,zz,.inr ⟨cdE,cdF,rfl,cd_ok,rfl⟩,(fun _ _=>rfl),adf anb fun ys hp hs t et _=>?_⟩
      have e1:t.d=wld K (tabsF 2 1 cF) (nmD ([]:List Str) (fun _=>0)):=by rw [et,aaJ hs (by decide +kernel) hp];rfl
      dsimp only
      rw [e1]
      clear e1 et hp hs
      refine afQ T.ci_World (.inl ⟨_,rfl⟩) ?_
      refine ⟨_,_,rfl,2,1,(fun _ _ _=>(0:Rat)),([]:List Str),(fun _=>0),rfl,by decide,by decide,z0,.inr ⟨2,1,cF,([]:List Str),(fun _=>0),rfl,by decide,by decide,cF_nb,?_⟩⟩
      rw [show (eqKD (nmD ([]:List Str) (fun _=>0)) (nmD ([]:List Str) (fun _=>0)) && eqDs (tabsF 2 1 (fun _ _ _=>(0:Rat))) (tabsF 2 1 cF))=false from by decide +kernel]
      exact brF (hN _ rfl)
    subst hs
    refine aff ?_
    refine brT ?_
    refine acG rfl rfl (acG rfl rfl ?_)
    refine ⟨rfl,rfl,_,_,_,rfl,(fun _ z=>by cases z),1,(fun _ _=>D.int 0),(fun _ _=>(0:Rat)),([]:List Str),(fun z=>.int ((fun _=>0) z)),[],.inl rfl,rfl,z1,.inl ⟨rfl,rfl⟩,(fun _ _=>rfl),adf anb fun ys hp hs t et _=>?_⟩
    have e1:t.d=wld K (tabsF 1 0 (fun _ _ _=>(0:Rat))) (nmD ([]:List Str) (fun _=>0)):=by rw [et,aaJ hs (by decide +kernel) hp];rfl
    dsimp only
    rw [e1]
    clear e1 et hp hs
    refine acG rfl rfl (acG rfl rfl (acG rfl rfl (acG rfl rfl ?_)))
    refine ⟨rfl,rfl,_,_,_,rfl,(fun _ z=>by cases z),1,(fun _ _=>D.int 0),(fun _ _=>(0:Rat)),([]:List Str),(fun z=>.int ((fun _=>0) z)),[(fun _ _=>(0:Rat))],.inl rfl,rfl,z1,.inr ⟨(fun _ _=>D.int 0),(fun _ _=>(0:Rat)),rfl,z1,rfl⟩,(fun _ _=>rfl),adf anb fun ys hp hs t et _=>?_⟩
    have e1:t.d=wld K (tabsF 1 1 (fun _ _ _=>(0:Rat))) (nmD ([]:List Str) (fun _=>0)):=by rw [et,aaJ hs (by decide +kernel) hp];rfl
    dsimp only
    rw [e1]
    clear e1 et hp hs
    refine afQ T.ci_World (.inl ⟨_,rfl⟩) ?_
    refine ⟨_,_,rfl,1,0,(fun _ _ _=>(0:Rat)),([]:List Str),(fun _=>0),rfl,by decide,by decide,z0,.inr ⟨1,1,(fun _ _ _=>(0:Rat)),([]:List Str),(fun _=>0),rfl,by decide,by decide,z0,?_⟩⟩
    rw [show (eqKD (nmD ([]:List Str) (fun _=>0)) (nmD ([]:List Str) (fun _=>0)) && eqDs (tabsF 1 0 (fun _ _ _=>(0:Rat))) (tabsF 1 1 (fun _ _ _=>(0:Rat))))=false from by decide +kernel]
    rfl
end
section
variable {P:Program} {w:World} {K:PySem.W.Frag} {mg:Str->Option Value} {base:Heap} {a:Nat->Addr} {d:Nat->FuncData}
theorem agd:ExT (defBody aaG) (defArgs aaG) (defScope aaG) "self" ["given"] acI where
  shape:=⟨_,_,_,_,_,_,_,_,_,rfl,(.con (fun _=>rfl) (.var (fun _=>rfl) (by decide) .nil)),fun _=>⟨_,rfl⟩,fun env h=>by unfold interactive;simp [Env.blockKind,h]<;>rfl,fun _=>rfl⟩
  head:=⟨_,rfl,rfl⟩
  ks:=by decide +kernel
  kc:=by decide +kernel
  loc:=by decide +kernel
  kind:=rfl
  co:=rfl
  gen:=rfl
  cell:=by decide +kernel
  flds:=by intro f hf x hx;simp at hf;first | (subst hf;cases hx;simp) | (rcases hf with rfl | rfl<;>cases hx<;>simp) | (rcases hf with rfl | rfl | rfl<;>cases hx<;>simp) | (rcases hf with rfl | rfl | rfl | rfl<;>cases hx<;>simp)
  nod:=by decide +kernel
  sd:=by decide
  len:=by decide
theorem agm (e:Addr) (us:List Value) (hl:us.length=(["given"]:List Str).length) (name qual:Str) (doc pm:Value) (an:Option Addr) (cda ct:Value) (cc:Addr):bindArgs (PySem.W.ksFn name qual (defArgs aaG) (defBody aaG) (defScope aaG) .none .none doc pm an cda ct cc) ⟨.ref e::us,[]⟩=pure (((("self":Str)::(["given"]:List Str))).zip (.ref e::us)):=
  match us,hl with
  | [u0],_=>rfl
theorem agc:ExT (defBody aaF) (defArgs aaF) (defScope aaF) "self" ["layer"] ad9 where
  shape:=⟨_,_,_,_,_,_,_,_,_,rfl,(.con (fun _=>rfl) (.var (fun _=>rfl) (by decide) .nil)),fun _=>⟨_,rfl⟩,fun env h=>by unfold interactive;simp [Env.blockKind,h]<;>rfl,fun _=>rfl⟩
  head:=⟨_,rfl,rfl⟩
  ks:=by decide +kernel
  kc:=by decide +kernel
  loc:=by decide +kernel
  kind:=rfl
  co:=rfl
  gen:=rfl
  cell:=by decide +kernel
  flds:=by intro f hf x hx;simp at hf;first | (subst hf;cases hx;simp) | (rcases hf with rfl | rfl<;>cases hx<;>simp) | (rcases hf with rfl | rfl | rfl<;>cases hx<;>simp) | (rcases hf with rfl | rfl | rfl | rfl<;>cases hx<;>simp)
  nod:=by decide +kernel
  sd:=by decide
  len:=by decide
theorem agl (e:Addr) (us:List Value) (hl:us.length=(["layer"]:List Str).length) (name qual:Str) (doc pm:Value) (an:Option Addr) (cda ct:Value) (cc:Addr):bindArgs (PySem.W.ksFn name qual (defArgs aaF) (defBody aaF) (defScope aaF) .none .none doc pm an cda ct cc) ⟨.ref e::us,[]⟩=pure (((("self":Str)::(["layer"]:List Str))).zip (.ref e::us)):=
  match us,hl with
  | [u0],_=>rfl
theorem ahN:ExT (defBody aa8) (defArgs aa8) (defScope aa8) "self" ["layer","start","goal"] ae5 where
  shape:=⟨_,_,_,_,_,_,_,_,_,rfl,(.con (fun _=>rfl) (.var (fun _=>rfl) (by decide) (.var (fun _=>rfl) (by decide) (.var (fun _=>rfl) (by decide) .nil)))),fun _=>⟨_,rfl⟩,fun env h=>by unfold interactive;simp [Env.blockKind,h]<;>rfl,fun _=>rfl⟩
  head:=⟨_,rfl,rfl⟩
  ks:=by decide +kernel
  kc:=by decide +kernel
  loc:=by decide +kernel
  kind:=rfl
  co:=rfl
  gen:=rfl
  cell:=by decide +kernel
  flds:=by intro f hf x hx;simp at hf;first | (subst hf;cases hx;simp) | (rcases hf with rfl | rfl<;>cases hx<;>simp) | (rcases hf with rfl | rfl | rfl<;>cases hx<;>simp) | (rcases hf with rfl | rfl | rfl | rfl<;>cases hx<;>simp)
  nod:=by decide +kernel
  sd:=by decide
  len:=by decide
theorem ahO (e:Addr) (us:List Value) (hl:us.length=(["layer","start","goal"]:List Str).length) (name qual:Str) (doc pm:Value) (an:Option Addr) (cda ct:Value) (cc:Addr):bindArgs (PySem.W.ksFn name qual (defArgs aa8) (defBody aa8) (defScope aa8) .none .none doc pm an cda ct cc) ⟨.ref e::us,[]⟩=pure (((("self":Str)::(["layer","start","goal"]:List Str))).zip (.ref e::us)):=
  match us,hl with
  | [u0,u1,u2],_=>rfl
theorem akM:ExT (defBody acg) (defArgs acg) (defScope acg) "self" ["subject","most"] aey where
  shape:=⟨_,_,_,_,_,_,_,_,_,rfl,(.con (fun _=>rfl) (.var (fun _=>rfl) (by decide) (.var (fun _=>rfl) (by decide) .nil))),fun _=>⟨_,rfl⟩,fun env h=>by unfold interactive;simp [Env.blockKind,h]<;>rfl,fun _=>rfl⟩
  head:=⟨_,rfl,rfl⟩
  ks:=by decide +kernel
  kc:=by decide +kernel
  loc:=by decide +kernel
  kind:=rfl
  co:=rfl
  gen:=rfl
  cell:=by decide +kernel
  flds:=by intro f hf x hx;simp at hf;first | (subst hf;cases hx;simp) | (rcases hf with rfl | rfl<;>cases hx<;>simp) | (rcases hf with rfl | rfl | rfl<;>cases hx<;>simp) | (rcases hf with rfl | rfl | rfl | rfl<;>cases hx<;>simp)
  nod:=by decide +kernel
  sd:=by decide
  len:=by decide
theorem akO (e:Addr) (us:List Value) (hl:us.length=(["subject","most"]:List Str).length) (name qual:Str) (doc pm:Value) (an:Option Addr) (cda ct:Value) (cc:Addr):bindArgs (PySem.W.ksFn name qual (defArgs acg) (defBody acg) (defScope acg) .none .none doc pm an cda ct cc) ⟨.ref e::us,[]⟩=pure (((("self":Str)::(["subject","most"]:List Str))).zip (.ref e::us)):=
  match us,hl with
  | [u0,u1],_=>rfl
theorem ag4:ExT (defBody aaR) (defArgs aaR) (defScope aaR) "self" ["given"] ac1 where
  shape:=⟨_,_,_,_,_,_,_,_,_,rfl,(.con (fun _=>rfl) (.var (fun _=>rfl) (by decide) .nil)),fun _=>⟨_,rfl⟩,fun env h=>by unfold interactive;simp [Env.blockKind,h]<;>rfl,fun _=>rfl⟩
  head:=⟨_,rfl,rfl⟩
  ks:=by decide +kernel
  kc:=by decide +kernel
  loc:=by decide +kernel
  kind:=rfl
  co:=rfl
  gen:=rfl
  cell:=by decide +kernel
  flds:=by intro f hf x hx;simp at hf;first | (subst hf;cases hx;simp) | (rcases hf with rfl | rfl<;>cases hx<;>simp) | (rcases hf with rfl | rfl | rfl<;>cases hx<;>simp) | (rcases hf with rfl | rfl | rfl | rfl<;>cases hx<;>simp)
  nod:=by decide +kernel
  sd:=by decide
  len:=by decide
theorem ag9 (e:Addr) (us:List Value) (hl:us.length=(["given"]:List Str).length) (name qual:Str) (doc pm:Value) (an:Option Addr) (cda ct:Value) (cc:Addr):bindArgs (PySem.W.ksFn name qual (defArgs aaR) (defBody aaR) (defScope aaR) .none .none doc pm an cda ct cc) ⟨.ref e::us,[]⟩=pure (((("self":Str)::(["given"]:List Str))).zip (.ref e::us)):=
  match us,hl with
  | [u0],_=>rfl
theorem age:ExT (defBody aaH) (defArgs aaH) (defScope aaH) "self" ["given"] acJ where
  shape:=⟨_,_,_,_,_,_,_,_,_,rfl,(.con (fun _=>rfl) (.var (fun _=>rfl) (by decide) .nil)),fun _=>⟨_,rfl⟩,fun env h=>by unfold interactive;simp [Env.blockKind,h]<;>rfl,fun _=>rfl⟩
  head:=⟨_,rfl,rfl⟩
  ks:=by decide +kernel
  kc:=by decide +kernel
  loc:=by decide +kernel
  kind:=rfl
  co:=rfl
  gen:=rfl
  cell:=by decide +kernel
  flds:=by intro f hf x hx;simp at hf;first | (subst hf;cases hx;simp) | (rcases hf with rfl | rfl<;>cases hx<;>simp) | (rcases hf with rfl | rfl | rfl<;>cases hx<;>simp) | (rcases hf with rfl | rfl | rfl | rfl<;>cases hx<;>simp)
  nod:=by decide +kernel
  sd:=by decide
  len:=by decide
theorem agn (e:Addr) (us:List Value) (hl:us.length=(["given"]:List Str).length) (name qual:Str) (doc pm:Value) (an:Option Addr) (cda ct:Value) (cc:Addr):bindArgs (PySem.W.ksFn name qual (defArgs aaH) (defBody aaH) (defScope aaH) .none .none doc pm an cda ct cc) ⟨.ref e::us,[]⟩=pure (((("self":Str)::(["given"]:List Str))).zip (.ref e::us)):=
  match us,hl with
  | [u0],_=>rfl
theorem ag3:ExT (defBody aaQ) (defArgs aaQ) (defScope aaQ) "self" ["name"] ac0 where
  shape:=⟨_,_,_,_,_,_,_,_,_,rfl,(.con (fun _=>rfl) (.var (fun _=>rfl) (by decide) .nil)),fun _=>⟨_,rfl⟩,fun env h=>by unfold interactive;simp [Env.blockKind,h]<;>rfl,fun _=>rfl⟩
  head:=⟨_,rfl,rfl⟩
  ks:=by decide +kernel
  kc:=by decide +kernel
  loc:=by decide +kernel
  kind:=rfl
  co:=rfl
  gen:=rfl
  cell:=by decide +kernel
  flds:=by intro f hf x hx;simp at hf;first | (subst hf;cases hx;simp) | (rcases hf with rfl | rfl<;>cases hx<;>simp) | (rcases hf with rfl | rfl | rfl<;>cases hx<;>simp) | (rcases hf with rfl | rfl | rfl | rfl<;>cases hx<;>simp)
  nod:=by decide +kernel
  sd:=by decide
  len:=by decide
theorem ag8 (e:Addr) (us:List Value) (hl:us.length=(["name"]:List Str).length) (name qual:Str) (doc pm:Value) (an:Option Addr) (cda ct:Value) (cc:Addr):bindArgs (PySem.W.ksFn name qual (defArgs aaQ) (defBody aaQ) (defScope aaQ) .none .none doc pm an cda ct cc) ⟨.ref e::us,[]⟩=pure (((("self":Str)::(["name"]:List Str))).zip (.ref e::us)):=
  match us,hl with
  | [u0],_=>rfl
theorem agf:ExT (defBody aaI) (defArgs aaI) (defScope aaI) "self" ["given"] acK where
  shape:=⟨_,_,_,_,_,_,_,_,_,rfl,(.con (fun _=>rfl) (.var (fun _=>rfl) (by decide) .nil)),fun _=>⟨_,rfl⟩,fun env h=>by unfold interactive;simp [Env.blockKind,h]<;>rfl,fun _=>rfl⟩
  head:=⟨_,rfl,rfl⟩
  ks:=by decide +kernel
  kc:=by decide +kernel
  loc:=by decide +kernel
  kind:=rfl
  co:=rfl
  gen:=rfl
  cell:=by decide +kernel
  flds:=by intro f hf x hx;simp at hf;first | (subst hf;cases hx;simp) | (rcases hf with rfl | rfl<;>cases hx<;>simp) | (rcases hf with rfl | rfl | rfl<;>cases hx<;>simp) | (rcases hf with rfl | rfl | rfl | rfl<;>cases hx<;>simp)
  nod:=by decide +kernel
  sd:=by decide
  len:=by decide
theorem ago (e:Addr) (us:List Value) (hl:us.length=(["given"]:List Str).length) (name qual:Str) (doc pm:Value) (an:Option Addr) (cda ct:Value) (cc:Addr):bindArgs (PySem.W.ksFn name qual (defArgs aaI) (defBody aaI) (defScope aaI) .none .none doc pm an cda ct cc) ⟨.ref e::us,[]⟩=pure (((("self":Str)::(["given"]:List Str))).zip (.ref e::us)):=
  match us,hl with
  | [u0],_=>rfl
theorem facts {w:World} {K:PySem.W.Frag} {h:Heap} {mg:Str->Option Value} {f:Addr} (X:K.In h) (G:h.Ns mainGlobals mg) (hfa:mg ("law":Str)=some (.ref f)) (c:SaysZ lyL faL fnL h K) :
    ∃ fd:FuncData,(∀ (s:Shared) (v:Value),BindsTo s fd ⟨[v],[]⟩ [("_law_script",v)])/\∀ base:Heap,K.In base->base.Ns mainGlobals mg->(∀ q∈lamFns K,LamX.TabB base mg q.1 q.2.1)->FnR PySem.Challenge.rw_missingmiles_k13_worlds_told.prog w K mg base 22 f fd ["_law_script"] (spLaw K):=by
  obtain ⟨fd0,F0⟩:=c.s.def_ 0 (d:=df0) rfl
  obtain ⟨fd1,F1⟩:=c.s.def_ 1 (d:=df1) rfl
  obtain ⟨fd2,F2⟩:=c.s.def_ 2 (d:=df2) rfl
  obtain ⟨fd3,F3⟩:=c.s.def_ 3 (d:=df3) rfl
  obtain ⟨fd4,F4⟩:=c.s.def_ 4 (d:=df4) rfl
  obtain ⟨fd5,F5⟩:=c.s.def_ 5 (d:=df5) rfl
  obtain ⟨fd6,F6⟩:=c.s.def_ 6 (d:=df6) rfl
  obtain ⟨fd7,F7⟩:=c.s.def_ 7 (d:=df7) rfl
  obtain ⟨fd8,F8⟩:=c.s.def_ 8 (d:=df8) rfl
  obtain ⟨fd9,F9⟩:=c.s.def_ 9 (d:=df9) rfl
  obtain ⟨fd10,F10⟩:=c.s.def_ 10 (d:=df10) rfl
  obtain ⟨fd11,F11⟩:=c.s.def_ 11 (d:=df11) rfl
  obtain ⟨fd12,F12⟩:=c.s.def_ 12 (d:=df12) rfl
  obtain ⟨fd13,F13⟩:=c.s.def_ 13 (d:=df13) rfl
  obtain ⟨fd14,F14⟩:=c.s.def_ 14 (d:=df14) rfl
  obtain ⟨fd17,F17⟩:=c.s.def_ 15 (d:=df17) rfl
  obtain ⟨fd18,F18⟩:=c.s.def_ 16 (d:=df18) rfl
  obtain ⟨fd19,F19⟩:=c.s.def_ 17 (d:=df19) rfl
  obtain ⟨fd20,F20⟩:=c.s.def_ 18 (d:=df20) rfl
  obtain ⟨fd21,F21⟩:=c.s.def_ 19 (d:=df21) rfl
  obtain ⟨fd22,F22⟩:=c.s.def_ 20 (d:=df22) rfl
  obtain ⟨fd23,F23⟩:=c.s.def_ 21 (d:=df23) rfl
  obtain ⟨fd24,F24⟩:=c.s.def_ 22 (d:=df24) rfl
  obtain ⟨fd25,F25⟩:=c.s.def_ 23 (d:=df25) rfl
  obtain ⟨fd26,F26⟩:=c.s.def_ 24 (d:=df26) rfl
  obtain ⟨fd27,F27⟩:=c.s.def_ 25 (d:=df27) rfl
  obtain ⟨fd28,F28⟩:=c.s.def_ 26 (d:=df28) rfl
  obtain ⟨fd29,F29⟩:=c.s.def_ 27 (d:=df29) rfl
  obtain ⟨fd30,F30⟩:=c.s.def_ 28 (d:=df30) rfl
  obtain ⟨fd31,F31⟩:=c.s.def_ 29 (d:=df31) rfl
  obtain ⟨fd32,F32⟩:=c.s.def_ 30 (d:=df32) rfl
  obtain ⟨fd33,F33⟩:=c.s.def_ 31 (d:=df33) rfl
  obtain ⟨fd34,F34⟩:=c.s.def_ 32 (d:=df34) rfl
  obtain ⟨fd35,F35⟩:=c.s.def_ 33 (d:=df35) rfl
  obtain ⟨fd36,F36⟩:=c.s.def_ 34 (d:=df36) rfl
  obtain ⟨fd37,F37⟩:=c.s.def_ 35 (d:=df37) rfl
  obtain ⟨fd38,F38⟩:=c.s.def_ 36 (d:=df38) rfl
  obtain ⟨fd39,F39⟩:=c.s.def_ 37 (d:=df39) rfl
  obtain ⟨fd40,F40⟩:=c.s.def_ 38 (d:=df40) rfl
  obtain ⟨fd41,F41⟩:=c.s.def_ 39 (d:=df41) rfl
  obtain ⟨fd42,F42⟩:=c.s.def_ 40 (d:=df42) rfl
  obtain ⟨fd43,F43⟩:=c.s.def_ 41 (d:=df43) rfl
  obtain ⟨fd44,F44⟩:=c.s.def_ 42 (d:=df44) rfl
  obtain ⟨fd45,F45⟩:=c.s.def_ 43 (d:=df45) rfl
  obtain ⟨fd46,F46⟩:=c.s.def_ 44 (d:=df46) rfl
  obtain ⟨fd47,F47⟩:=c.s.def_ 45 (d:=df47) rfl
  obtain ⟨fd48,F48⟩:=c.s.def_ 46 (d:=df48) rfl
  have Pp15:=c.pr ps15 (List.mem_of_getElem? (i:=0) rfl)
  obtain ⟨fd15,F15⟩:=Pp15.f
  have Pp16:=c.pr ps16 (List.mem_of_getElem? (i:=1) rfl)
  obtain ⟨fd16,F16⟩:=Pp16.f
  have e:=hfa.symm.trans (He.glo_ok X G (c.s.fact 46 (f:=.glo "law") rfl))
  cases e
  have su:=He.free_ok X G (c.s.fact 75 (f:=.free "super") rfl)
  have X0:=c.x ad6 (List.mem_of_getElem? (i:=0) rfl)
  have X1:=c.x ad5 (List.mem_of_getElem? (i:=1) rfl)
  have X2:=c.x ae4 (List.mem_of_getElem? (i:=2) rfl)
  have X3:=c.x ahv (List.mem_of_getElem? (i:=3) rfl)
  have X4:=c.x aeJ (List.mem_of_getElem? (i:=4) rfl)
  have X5:=c.x ad7 (List.mem_of_getElem? (i:=5) rfl)
  have X6:=c.x aeI (List.mem_of_getElem? (i:=6) rfl)
  have X7:=c.x ad8 (List.mem_of_getElem? (i:=7) rfl)
  have T:∀ base:Heap,(∀ q∈lamFns K,LamX.TabB base mg q.1 q.2.1)->Tx PySem.Challenge.rw_missingmiles_k13_worlds_told.prog K mg base (fun i=>match i with | 0=>He.ga K "is_whole" | 1=>He.ga K "is_number" | 2=>He.ga K "is_ratio" | 3=>He.ga K "is_valued" | 4=>He.ga K "lowest" | 5=>He.ga K "ratio_of" | 6=>He.ga K "plus" | 7=>He.ga K "below" | 8=>He.ga K "is_name" | 9=>He.ga K "is_layer" | 10=>He.ga K "is_square" | 11=>He.ga K "first_fault" | 12=>He.ga K "checked_table" | 13=>He.ga K "checked_places" | 14=>He.ma K (He.ga K "World") "__init__" | 15=>gAt K (He.ga K "World") "size" | 16=>gAt K (He.ga K "World") "layers" | 17=>He.ma K (He.ga K "World") "names" | 18=>He.ma K (He.ga K "World") "__contains__" | 19=>He.ma K (He.ga K "World") "place" | 20=>He.ma K (He.ga K "World") "rows_of" | 21=>He.ma K (He.ga K "World") "table" | 22=>He.ma K (He.ga K "World") "__len__" | 23=>He.ma K (He.ga K "World") "__bool__" | 24=>He.ma K (He.ga K "World") "__eq__" | 25=>He.ga K "names_text" | 26=>He.ma K (He.ga K "World") "__repr__" | 27=>He.ga K "_law_source" | 28=>He.ga K "_law_draw" | 29=>He.ga K "_law_of" | 30=>He.ga K "_law_mixed" | 31=>He.ga K "_law_same" | 32=>He.ga K "_law_fields" | 33=>He.ga K "_law_ask" | 34=>He.ga K "_law_low" | 35=>He.ga K "_law_plus" | 36=>He.ga K "_law_less" | 37=>He.ga K "_law_least" | 38=>He.ga K "_law_names" | 39=>He.ga K "_law_length" | 40=>He.ga K "_law_bare" | 41=>He.ga K "_law_closed" | 42=>He.ga K "_law_table" | 43=>He.ga K "_law_spread_plan" | 44=>He.ga K "_law_made" | 45=>He.ga K "_law_told" | 46=>He.ga K "_law_places_of" | 47=>He.ga K "_law_shown" | 48=>He.ga K "law" | _=>0) (fun i=>match i with | 0=>fd0 | 1=>fd1 | 2=>fd2 | 3=>fd3 | 4=>fd4 | 5=>fd5 | 6=>fd6 | 7=>fd7 | 8=>fd8 | 9=>fd9 | 10=>fd10 | 11=>fd11 | 12=>fd12 | 13=>fd13 | 14=>fd14 | 15=>fd15 | 16=>fd16 | 17=>fd17 | 18=>fd18 | 19=>fd19 | 20=>fd20 | 21=>fd21 | 22=>fd22 | 23=>fd23 | 24=>fd24 | 25=>fd25 | 26=>fd26 | 27=>fd27 | 28=>fd28 | 29=>fd29 | 30=>fd30 | 31=>fd31 | 32=>fd32 | 33=>fd33 | 34=>fd34 | 35=>fd35 | 36=>fd36 | 37=>fd37 | 38=>fd38 | 39=>fd39 | 40=>fd40 | 41=>fd41 | 42=>fd42 | 43=>fd43 | 44=>fd44 | 45=>fd45 | 46=>fd46 | 47=>fd47 | 48=>fd48 | _=>fd0):=fun base tb=>
    { tb:=tb
      F_is_whole:=F0
      m_is_whole:=He.glo_ok X G (c.s.fact 0 (f:=.glo "is_whole") rfl)
      F_is_number:=F1
      m_is_number:=He.glo_ok X G (c.s.fact 1 (f:=.glo "is_number") rfl)
      F_is_ratio:=F2
      m_is_ratio:=He.glo_ok X G (c.s.fact 2 (f:=.glo "is_ratio") rfl)
      F_is_valued:=F3
      m_is_valued:=He.glo_ok X G (c.s.fact 3 (f:=.glo "is_valued") rfl)
      F_lowest:=F4
      m_lowest:=He.glo_ok X G (c.s.fact 4 (f:=.glo "lowest") rfl)
      F_ratio_of:=F5
      m_ratio_of:=He.glo_ok X G (c.s.fact 5 (f:=.glo "ratio_of") rfl)
      F_plus:=F6
      m_plus:=He.glo_ok X G (c.s.fact 6 (f:=.glo "plus") rfl)
      F_below:=F7
      m_below:=He.glo_ok X G (c.s.fact 7 (f:=.glo "below") rfl)
      F_is_name:=F8
      m_is_name:=He.glo_ok X G (c.s.fact 8 (f:=.glo "is_name") rfl)
      F_is_layer:=F9
      m_is_layer:=He.glo_ok X G (c.s.fact 9 (f:=.glo "is_layer") rfl)
      F_is_square:=F10
      m_is_square:=He.glo_ok X G (c.s.fact 10 (f:=.glo "is_square") rfl)
      F_first_fault:=F11
      m_first_fault:=He.glo_ok X G (c.s.fact 11 (f:=.glo "first_fault") rfl)
      F_checked_table:=F12
      m_checked_table:=He.glo_ok X G (c.s.fact 12 (f:=.glo "checked_table") rfl)
      F_checked_places:=F13
      m_checked_places:=He.glo_ok X G (c.s.fact 13 (f:=.glo "checked_places") rfl)
      F_World___init__:=F14
      mk_World:=He.mkr_ok (c.s.fact 14 (f:=.mkr "World") rfl)
      F_World_size:=F15
      pr_World_size:=Pp15.p rfl
      F_World_layers:=F16
      pr_World_layers:=Pp16.p rfl
      F_World_names:=F17
      me_World_names:=He.meth_ok (c.s.fact 15 (f:=.meth "World" "names") rfl)
      F_World___contains__:=F18
      me_World___contains__:=He.meth_ok (c.s.fact 16 (f:=.meth "World" "__contains__") rfl)
      F_World_place:=F19
      me_World_place:=He.meth_ok (c.s.fact 17 (f:=.meth "World" "place") rfl)
      F_World_rows_of:=F20
      me_World_rows_of:=He.meth_ok (c.s.fact 18 (f:=.meth "World" "rows_of") rfl)
      F_World_table:=F21
      me_World_table:=He.meth_ok (c.s.fact 19 (f:=.meth "World" "table") rfl)
      F_World___len__:=F22
      me_World___len__:=He.meth_ok (c.s.fact 20 (f:=.meth "World" "__len__") rfl)
      F_World___bool__:=F23
      me_World___bool__:=He.meth_ok (c.s.fact 21 (f:=.meth "World" "__bool__") rfl)
      F_World___eq__:=F24
      me_World___eq__:=He.meth_ok (c.s.fact 22 (f:=.meth "World" "__eq__") rfl)
      F_names_text:=F25
      m_names_text:=He.glo_ok X G (c.s.fact 23 (f:=.glo "names_text") rfl)
      F_World___repr__:=F26
      me_World___repr__:=He.meth_ok (c.s.fact 24 (f:=.meth "World" "__repr__") rfl)
      F__law_source:=F27
      m__law_source:=He.glo_ok X G (c.s.fact 25 (f:=.glo "_law_source") rfl)
      F__law_draw:=F28
      m__law_draw:=He.glo_ok X G (c.s.fact 26 (f:=.glo "_law_draw") rfl)
      F__law_of:=F29
      m__law_of:=He.glo_ok X G (c.s.fact 27 (f:=.glo "_law_of") rfl)
      F__law_mixed:=F30
      m__law_mixed:=He.glo_ok X G (c.s.fact 28 (f:=.glo "_law_mixed") rfl)
      F__law_same:=F31
      m__law_same:=He.glo_ok X G (c.s.fact 29 (f:=.glo "_law_same") rfl)
      F__law_fields:=F32
      m__law_fields:=He.glo_ok X G (c.s.fact 30 (f:=.glo "_law_fields") rfl)
      F__law_ask:=F33
      m__law_ask:=He.glo_ok X G (c.s.fact 31 (f:=.glo "_law_ask") rfl)
      F__law_low:=F34
      m__law_low:=He.glo_ok X G (c.s.fact 32 (f:=.glo "_law_low") rfl)
      F__law_plus:=F35
      m__law_plus:=He.glo_ok X G (c.s.fact 33 (f:=.glo "_law_plus") rfl)
      F__law_less:=F36
      m__law_less:=He.glo_ok X G (c.s.fact 34 (f:=.glo "_law_less") rfl)
      F__law_least:=F37
      m__law_least:=He.glo_ok X G (c.s.fact 35 (f:=.glo "_law_least") rfl)
      F__law_names:=F38
      m__law_names:=He.glo_ok X G (c.s.fact 36 (f:=.glo "_law_names") rfl)
      F__law_length:=F39
      m__law_length:=He.glo_ok X G (c.s.fact 37 (f:=.glo "_law_length") rfl)
      F__law_bare:=F40
      m__law_bare:=He.glo_ok X G (c.s.fact 38 (f:=.glo "_law_bare") rfl)
      F__law_closed:=F41
      m__law_closed:=He.glo_ok X G (c.s.fact 39 (f:=.glo "_law_closed") rfl)
      F__law_table:=F42
      m__law_table:=He.glo_ok X G (c.s.fact 40 (f:=.glo "_law_table") rfl)
      F__law_spread_plan:=F43
      m__law_spread_plan:=He.glo_ok X G (c.s.fact 41 (f:=.glo "_law_spread_plan") rfl)
      F__law_made:=F44
      m__law_made:=He.glo_ok X G (c.s.fact 42 (f:=.glo "_law_made") rfl)
      F__law_told:=F45
      m__law_told:=He.glo_ok X G (c.s.fact 43 (f:=.glo "_law_told") rfl)
      F__law_places_of:=F46
      m__law_places_of:=He.glo_ok X G (c.s.fact 44 (f:=.glo "_law_places_of") rfl)
      F__law_shown:=F47
      m__law_shown:=He.glo_ok X G (c.s.fact 45 (f:=.glo "_law_shown") rfl)
      F_law:=F48
      m_World:=He.glo_ok X G (c.s.fact 47 (f:=.glo "World") rfl)
      cl_World:=He.cls_ok (c.s.fact 48 (f:=.cls "World") rfl)
      na_World_own_tables:=He.noat_ok (c.s.fact 49 (f:=.noat "World" "own_tables") rfl)
      na_World_own_names:=He.noat_ok (c.s.fact 50 (f:=.noat "World" "own_names") rfl)
      cc_World_MOST:=cv_ok c.toSaysY.toSaysX (i:=0) rfl
      t_LAYERS:=gt_ok c.toSaysY.toSaysX X G (i:=1) rfl
      ci_World:=c.ci "World" (by decide)
      x_InvalidRatio:=X0.cls agd (by decide +kernel) (by decide +kernel) agm (by intro f hf;simp at hf;rcases hf with rfl | rfl<;>decide) (fun vs z=>by cases z) su (by decide)
      xe_InvalidRatio:=X0.r rfl
      x_InvalidTable:=X1.cls agc (by decide +kernel) (by decide +kernel) agl (by intro f hf;simp at hf;rcases hf with rfl | rfl<;>decide) (fun vs z=>by cases z) su (by decide)
      xe_InvalidTable:=X1.r rfl
      x_InvalidWay:=X2.cls ahN (by decide +kernel) (by decide +kernel) ahO (by intro f hf;simp at hf;rcases hf with rfl | rfl | rfl | rfl<;>decide) (fun vs z=>by cases z) su (by decide)
      xe_InvalidWay:=X2.r rfl
      x_TooMany:=X3.cls akM (by decide +kernel) (by decide +kernel) akO (by intro f hf;simp at hf;rcases hf with rfl | rfl | rfl<;>decide) (fun vs z=>by cases z) su (by decide)
      xe_TooMany:=X3.r rfl
      x_InvalidName:=X4.cls ag4 (by decide +kernel) (by decide +kernel) ag9 (by intro f hf;simp at hf;rcases hf with rfl | rfl<;>decide) (fun vs z=>by cases z) su (by decide)
      xe_InvalidName:=X4.r rfl
      x_InvalidPlace:=X5.cls age (by decide +kernel) (by decide +kernel) agn (by intro f hf;simp at hf;rcases hf with rfl | rfl<;>decide) (fun vs z=>by cases z) su (by decide)
      xe_InvalidPlace:=X5.r rfl
      x_UnknownName:=X6.cls ag3 (by decide +kernel) (by decide +kernel) ag8 (by intro f hf;simp at hf;rcases hf with rfl | rfl<;>decide) (fun vs z=>by cases z) su (by decide)
      xe_UnknownName:=X6.r rfl
      x_InvalidLayer:=X7.cls agf (by decide +kernel) (by decide +kernel) ago (by intro f hf;simp at hf;rcases hf with rfl | rfl<;>decide) (fun vs z=>by cases z) su (by decide)
      xe_InvalidLayer:=X7.r rfl
      m_InvalidRatio:=He.glo_ok X G (c.s.fact 51 (f:=.glo "InvalidRatio") rfl)
      m_InvalidTable:=He.glo_ok X G (c.s.fact 52 (f:=.glo "InvalidTable") rfl)
      m_InvalidWay:=He.glo_ok X G (c.s.fact 53 (f:=.glo "InvalidWay") rfl)
      m_TooMany:=He.glo_ok X G (c.s.fact 54 (f:=.glo "TooMany") rfl)
      m_InvalidName:=He.glo_ok X G (c.s.fact 55 (f:=.glo "InvalidName") rfl)
      m_InvalidPlace:=He.glo_ok X G (c.s.fact 56 (f:=.glo "InvalidPlace") rfl)
      m_UnknownName:=He.glo_ok X G (c.s.fact 57 (f:=.glo "UnknownName") rfl)
      m_InvalidLayer:=He.glo_ok X G (c.s.fact 58 (f:=.glo "InvalidLayer") rfl)
      m_MilesError:=He.glo_ok X G (c.s.fact 59 (f:=.glo "MilesError") rfl)
      m_Missing:=He.glo_ok X G (c.s.fact 60 (f:=.glo "Missing") rfl)
      m_NothingLeft:=He.glo_ok X G (c.s.fact 61 (f:=.glo "NothingLeft") rfl)
      n_abs:=He.free_ok X G (c.s.fact 62 (f:=.free "abs") rfl)
      n_all:=He.free_ok X G (c.s.fact 63 (f:=.free "all") rfl)
      n_any:=He.free_ok X G (c.s.fact 64 (f:=.free "any") rfl)
      n_bool:=He.free_ok X G (c.s.fact 65 (f:=.free "bool") rfl)
      n_dict:=He.free_ok X G (c.s.fact 66 (f:=.free "dict") rfl)
      n_int:=He.free_ok X G (c.s.fact 67 (f:=.free "int") rfl)
      n_isinstance:=He.free_ok X G (c.s.fact 68 (f:=.free "isinstance") rfl)
      n_len:=He.free_ok X G (c.s.fact 69 (f:=.free "len") rfl)
      n_list:=He.free_ok X G (c.s.fact 70 (f:=.free "list") rfl)
      n_range:=He.free_ok X G (c.s.fact 71 (f:=.free "range") rfl)
      n_repr:=He.free_ok X G (c.s.fact 72 (f:=.free "repr") rfl)
      n_sorted:=He.free_ok X G (c.s.fact 73 (f:=.free "sorted") rfl)
      n_str:=He.free_ok X G (c.s.fact 74 (f:=.free "str") rfl)
      n_super:=He.free_ok X G (c.s.fact 75 (f:=.free "super") rfl)
      n_tuple:=He.free_ok X G (c.s.fact 76 (f:=.free "tuple") rfl)
      b_gcd:=c.blt X G 0 rfl
      c_ZERO:=c.glob X G 0 rfl
      c_LETTERS:=c.glob X G 1 rfl
      c_LAYERS:=c.glob X G 2 rfl
      c_MOST_NAMED:=c.glob X G 3 rfl
      c_MOST_PLACES:=c.glob X G 4 rfl }
  exact ⟨fd48,amJ F48 fun _ _ _ _ _ _ u=>rfl,fun base _ _ tb=>apP (T base tb)⟩
end
end K13
open PySem PySem.W PySem.Calls PyProof.Rows in
set_option maxRecDepth 100000 in
set_option maxHeartbeats 0 in
theorem PySem.Challenge.cw_missingmiles_k13_worlds_told_holds : PySem.Challenge.rw_missingmiles_k13_worlds_told.Holds := by
  w_on;o_law
  refine HandSHeadRun.head_imp (r:=OpenLaw.row PySem.Challenge.rw_missingmiles_k13_worlds_told) (q:=K13.qv) (H:=K13.hk) (ob:=K13.ob) (M:=9000) (loose:=K13.names) (d:=HandSHeadRun.topDef (OpenLaw.row PySem.Challenge.rw_missingmiles_k13_worlds_told).prog 60) (kwd:=[]) K13.ob_eq
    K13.run (by kernel_rfl) (by kernel_rfl) (by kernel_rfl) (by rfl) (by first | assumption | decide +kernel) (by decide +kernel) ⟨rfl,rfl,rfl,rfl,rfl,by decide +kernel⟩ ?hw ?hc
  case hw=>w_witness2
  case hc=>
    refine DL.amN (l:=PySem.Challenge.rw_missingmiles_k13_worlds_told) (n:=63) (k:=22) (x:="_law_script") rfl (by decide) (by kernel_rfl) ⟨rfl,by decide,by decide⟩ ?F
    intro w mg fa h Y G hmg0
    obtain ⟨K,KX,c⟩:=Y
    have hmg:mg ("law":PySem.Str)=some (.ref fa):=by
      have e:(HandSHeadRun.topDef (OpenLaw.row PySem.Challenge.rw_missingmiles_k13_worlds_told).prog 60).name=("law":PySem.Str):=by kernel_rfl
      rw [<- e]
      exact hmg0
    obtain ⟨fd,hb,hF⟩:=K13.facts (w:=w) KX G hmg c
    exact ⟨K,fd,DL.spLaw K,KX,hb,c.te,c.tn,c.tc,fun H a ns hl hT hS=>⟨a,ns,rfl,hS,hl,hT,c.tu,fun _=>rfl⟩,hF⟩
