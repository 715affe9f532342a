import PyProof.Rows.All
import Wide.All
import OpenK.AllK
import Wide.FinOn
import HandS.ForMost
import HandS.Exc
import HandS.TryOnly
import HandS.ExcOwn
import HandS.WordsExc
import HandS.CallSlots
import HandS.Walk
import HandS.Wide
import HandS.Gcd
import HandS.IsInst
import HandS.Defaults
import HandS.Lambda
import HandS.EndTab
import HandS.ExcCtx
import HandS.HotCalls
import HandS.ExcField
import KE.KExcSuper
import KE.KTryMore
import HandS.HeadHook4
import HandS.TupAny
import HandS.Deep
import HandS.RaiseMore
import HandS.Flow
import HandS.Zip
import KE.KStateDown
import HandS.Head0
import HandS.Head1
import HandS.Head2
import HandS.Head3
import HandS.HeadEnd
import HandS.HeadHook1
import HandS.HeadHook2
import HandS.MakeKwOnly
import HandS.Style
import HandS.TupLe
import KE.GoesZip
import KE.GoesMore
import HandS.ExcValue
import HandS.ExcInit
import KE.KDflt
import HandS.Star
import HandS.FStr
import HandS.Property
import HandS.ClsMeth
import HandS.Small
import PyProof.MeetsIn
import HandS.Strs
import HandS.More
import HandS.Conv
import PyProof.ListStr
import HandS.Text
import HandS.StrMore
import PyProof.StrBlock2
import KE.SortData
import HandS.SortInts
import KE.SortKeyed
import HandS.Keys
import HandS.SortKw
import KE.KDictPairs
import KE.KEqDict
import HandS.DictTup
import HandS.ListItems
import HandS.DictComp
import HandS.TupSets
import HandS.SetBool
import KE.KUnpackStar
import KE.KDictZip
import HandS.TupMul
import HandS.Finally
import HandS.OwnEq
import KE.KEqNest
import PySem.Challenge.RW_missingmiles_k14_tables_of_worlds_refuse
set_option Elab.async false
set_option linter.all false
set_option maxRecDepth 100000
set_option autoImplicit false
set_option maxHeartbeats 2000000
namespace DL
open PySem PySem.Spec PyProof.Rows L2
inductive D where
  | non | bl (b:Bool) | int (i:Int) | str (x:Str)
  | lst (ds:List D) | tup (ds:List D)
  | ins (C:Addr) (fs:List (Str × D))
  | dk (kvs:List (Key × D)) | dt (kvs:List (List Key × D))
  | any
  | raw (v:V)
  | kt (ks:List Key)
abbrev Ex (H H':Hp):Prop:=∀ a o,H a=some o->H' a=some o
theorem Ex.refl (H:Hp):Ex H H:=fun _ _ h=>h
theorem Ex.trans {H H1 H2:Hp} (a:Ex H H1) (b:Ex H1 H2):Ex H H2:=fun x o h=>b x o (a x o h)
theorem Ex.new {H:Hp} {p:Addr} {o:HO} (h:H p=none):Ex H (upd H p o):=fun a u e=>by
  rw [upd_ne (ne_of_none e h)];exact e
theorem Ex.up {G H:Hp} {p:Addr} {o:HO} (e:Ex G H):Ex (upd G p o) (upd H p o):=fun a u h=>by
  by_cases q:a=p
  · subst q;rw [upd_same] at h ⊢;exact h
  · rw [upd_ne q] at h ⊢;exact e a u h
theorem Ex.free {G H:Hp} (e:Ex G H) {a:Addr} (h:H a=none):G a=none:=by
  cases q:G a with
  | none=>rfl
  | some o=>rw [e a o q] at h;cases h
theorem ani {H H':Hp} {a:Addr} {u:HO} (e:Ex H H') (h:Rd H a u):Rd H' a u:=by
  rcases h with h | ⟨o,h⟩
  · exact Or.inl (e a _ h)
  · exact Or.inr ⟨o,e a _ h⟩
theorem ex_l {K:PySem.W.Frag} {H H':Hp} {a:Addr} {xs:List V} (e:Ex H H') (h:SqL K H a xs):SqL K H' a xs:=by
  rcases h with h | h
  · exact Or.inl (ani e h)
  · exact Or.inr h
theorem ex_t {K:PySem.W.Frag} {H H':Hp} {a:Addr} {xs:List V} (e:Ex H H') (h:SqT K H a xs):SqT K H' a xs:=by
  rcases h with h | h
  · exact Or.inl (ani e h)
  · exact Or.inr h
mutual
inductive DOk (K:PySem.W.Frag) (G:Hp):V->D->Prop
  | non:DOk K G .non .non
  | bl (b:Bool):DOk K G (.bl b) (.bl b)
  | int (i:Int):DOk K G (.int i) (.int i)
  | str (x:Str):DOk K G (.str x) (.str x)
  | lst {a:Addr} {vs:List V} {ds:List D}:G a=some (.lst vs)->DAll K G vs ds->DOk K G (.ref a) (.lst ds)
  | tup {a:Addr} {vs:List V} {ds:List D}:SqT K G a vs->DAll K G vs ds->DOk K G (.ref a) (.tup ds)
  | ins {a C dx:Addr} {vs:List (Str × V)} {fs:List (Str × D)}:G a=some (.ins C dx vs)->G dx=some (.own a)->FAll K G vs fs->DOk K G (.ref a) (.ins C fs)
  | any (v:V):DOk K G v .any
  | dk {a:Addr} {o:Obj} {vs:List (Key × V)} {fs:List (Key × D)}:G a=some (.frz o (.dK vs))->FAll K G vs fs->DOk K G (.ref a) (.dk fs)
  | dt {a:Addr} {o:Obj} {vs:List (List Key × V)} {fs:List (List Key × D)}:G a=some (.frz o (.dT vs))->FAll K G vs fs->DOk K G (.ref a) (.dt fs)
  | raw (v:V):DOk K G v (.raw v)
  | kt {a:Addr} {ks:List Key}:G a=some (.tup (ks.map kV))->DOk K G (.ref a) (.kt ks)
inductive DAll (K:PySem.W.Frag) (G:Hp):List V->List D->Prop
  | nil:DAll K G [] []
  | cons {v:V} {d:D} {vs:List V} {ds:List D}:DOk K G v d->DAll K G vs ds->DAll K G (v::vs) (d::ds)
inductive FAll (K:PySem.W.Frag) (G:Hp):{κ:Type}->List (κ × V)->List (κ × D)->Prop
  | nil {κ:Type}:FAll K G (κ:=κ) [] []
  | cons {κ:Type} {x:κ} {v:V} {d:D} {vs:List (κ × V)} {ds:List (κ × D)}:DOk K G v d->FAll K G vs ds->FAll K G ((x,v)::vs) ((x,d)::ds)
end
section
variable {K:PySem.W.Frag} {G G':Hp}
mutual
theorem DOk.mono (e:Ex G G'):∀ {v:V} {d:D},DOk K G v d->DOk K G' v d
  | _,_,.non=>.non
  | _,_,.bl b=>.bl b
  | _,_,.int i=>.int i
  | _,_,.str x=>.str x
  | _,_,.lst h a=>.lst (e _ _ h) (DAll.mono e a)
  | _,_,.tup h a=>.tup (ex_t e h) (DAll.mono e a)
  | _,_,.ins h h2 a=>.ins (e _ _ h) (e _ _ h2) (FAll.mono e a)
  | _,_,.any v=>.any v
  | _,_,.dk h a=>.dk (e _ _ h) (FAll.mono e a)
  | _,_,.dt h a=>.dt (e _ _ h) (FAll.mono e a)
  | _,_,.raw v=>.raw v
  | _,_,.kt h=>.kt (e _ _ h)
theorem DAll.mono (e:Ex G G'):∀ {vs:List V} {ds:List D},DAll K G vs ds->DAll K G' vs ds
  | _,_,.nil=>.nil
  | _,_,.cons h t=>.cons (DOk.mono e h) (DAll.mono e t)
theorem FAll.mono (e:Ex G G'):∀ {κ:Type} {vs:List (κ × V)} {ds:List (κ × D)},FAll K G vs ds->FAll K G' vs ds
  | _,_,_,.nil=>.nil
  | _,_,_,.cons h t=>.cons (DOk.mono e h) (FAll.mono e t)
end
theorem DAll.length:∀ {vs:List V} {ds:List D},DAll K G vs ds->vs.length=ds.length
  | _,_,.nil=>rfl
  | _,_,.cons _ t=>congrArg (· + 1) (DAll.length t)
theorem DAll.get:∀ {vs:List V} {ds:List D} {i:Nat} {d:D},DAll K G vs ds->ds[i]?=some d->∃ v,vs[i]?=some v/\DOk K G v d
  | _,_,_,_,.nil,e=>by simp at e
  | _,_,0,_,.cons h _,e=>by simp at e;subst e;exact ⟨_,rfl,h⟩
  | _,_,i + 1,_,.cons _ t,e=>by
    obtain ⟨v,h1,h2⟩:=DAll.get (i:=i) t (by simpa using e)
    exact ⟨v,by simpa using h1,h2⟩
theorem DAll.getV:∀ {vs:List V} {ds:List D} {i:Nat} {v:V},DAll K G vs ds->vs[i]?=some v->∃ d,ds[i]?=some d/\DOk K G v d
  | _,_,_,_,.nil,e=>by simp at e
  | _,_,0,_,.cons h _,e=>by simp at e;subst e;exact ⟨_,rfl,h⟩
  | _,_,i + 1,_,.cons _ t,e=>by
    obtain ⟨v,h1,h2⟩:=DAll.getV (i:=i) t (by simpa using e)
    exact ⟨v,by simpa using h1,h2⟩
theorem DAll.append:∀ {vs ws:List V} {ds es:List D},DAll K G vs ds->DAll K G ws es->DAll K G (vs++ws) (ds++es)
  | _,_,_,_,.nil,s=>s
  | _,_,_,_,.cons h t,s=>.cons h (DAll.append t s)
theorem DAll.drop:∀ {vs:List V} {ds:List D} (n:Nat),DAll K G vs ds->DAll K G (vs.drop n) (ds.drop n)
  | _,_,0,r=>r
  | _,_,_ + 1,.nil=>.nil
  | _,_,n + 1,.cons _ t=>DAll.drop n t
theorem DAll.set {v:V} {d:D} (r:DOk K G v d):∀ {vs:List V} {ds:List D} (i:Nat),DAll K G vs ds->DAll K G (vs.set i v) (ds.set i d)
  | _,_,_,.nil=>.nil
  | _,_,0,.cons _ t=>.cons r t
  | _,_,i + 1,.cons q t=>.cons q (DAll.set r i t)
theorem FAll.look {κ:Type} [BEq κ]:∀ {vs:List (κ × V)} {fs:List (κ × D)} {f:κ} {d:D},FAll K G vs fs->fs.lookup f=some d->∃ v,vs.lookup f=some v/\DOk K G v d
  | _,_,_,_,.nil,e=>by simp at e
  | _,_,f,d,.cons (x:=x) h t,e=>by
    rw [List.lookup_cons] at e
    rw [List.lookup_cons]
    cases q:f == x with
    | true=>rw [q] at e;cases e;exact ⟨_,rfl,h⟩
    | false=>rw [q] at e;exact FAll.look t e
theorem FAll.lookN {κ:Type} [BEq κ]:∀ {vs:List (κ × V)} {fs:List (κ × D)} {f:κ},FAll K G vs fs->fs.lookup f=none->vs.lookup f=none
  | _,_,_,.nil,_=>rfl
  | _,_,f,.cons (x:=x) h t,e=>by
    rw [List.lookup_cons] at e ⊢
    cases q:f == x with
    | true=>rw [q] at e;cases e
    | false=>rw [q] at e;exact FAll.lookN t e
end
inductive OO where
  | lst (ds:List D)
  | ins (x C:Addr) (fs:List (Str × D))
  | dk (kvs:List (Key × D)) | dt (kvs:List (List Key × D))
structure GR where
  as:List Addr
  R:PySem.W.Frag->Hp->Hp->Prop
  st:∀ K G G' H H',Ex G G'->(∀ a∈as,H' a=H a)->R K G H->R K G' H'
inductive DV where
  | d (x:D) | src | own (o:OO) | bor (o:OO) | see (o:OO)
  | mu (x C:Addr) (fs:List (Str × D))
  | gh (x:Addr) (r:GR)
def OwnOk (K:PySem.W.Frag) (G H:Hp) (a:Addr):OO->Prop
  | .lst ds=>∃ vs,H a=some (.lst vs)/\DAll K G vs ds
  | .ins x C fs=>a=x/\∃ dx vs,H a=some (.ins C dx vs)/\G dx=some (.own a)/\FAll K G vs fs
  | .dk kvs=>∃ vs,H a=some (.dK vs)/\FAll K G vs kvs
  | .dt kvs=>∃ vs,H a=some (.dT vs)/\FAll K G vs kvs
theorem OwnOk.there {K:PySem.W.Frag} {G H:Hp} {a:Addr} {o:OO} (h:OwnOk K G H a o):H a≠none:=by
  cases o with
  | lst ds=>obtain ⟨vs,e,_⟩:=h;rw [e];simp
  | ins x C fs=>obtain ⟨_,dx,vs,e,_⟩:=h;rw [e];simp
  | dk kvs=>obtain ⟨vs,e,_⟩:=h;rw [e];simp
  | dt kvs=>obtain ⟨vs,e,_⟩:=h;rw [e];simp
theorem OwnOk.keep {K:PySem.W.Frag} {G H G' H':Hp} {a:Addr} {o:OO} (h:OwnOk K G H a o) (e:Ex G G') (k:H' a=H a):OwnOk K G' H' a o:=by
  cases o with
  | lst ds=>obtain ⟨vs,q,r⟩:=h;exact ⟨vs,by rw [k];exact q,r.mono e⟩
  | ins x C fs=>obtain ⟨ex,dx,vs,q,g,r⟩:=h;exact ⟨ex,dx,vs,by rw [k];exact q,e _ _ g,r.mono e⟩
  | dk kvs=>obtain ⟨vs,q,r⟩:=h;exact ⟨vs,by rw [k];exact q,r.mono e⟩
  | dt kvs=>obtain ⟨vs,q,r⟩:=h;exact ⟨vs,by rw [k];exact q,r.mono e⟩
def BorOk (K:PySem.W.Frag) (G H:Hp) (a:Addr):OO->Prop
  | .dk kvs=>∃ o vs,H a=some (.frz o (.dK vs))/\FAll K G vs kvs
  | .dt kvs=>∃ o vs,H a=some (.frz o (.dT vs))/\FAll K G vs kvs
  | .lst ds=>OwnOk K G H a (.lst ds)
  | .ins x C fs=>OwnOk K G H a (.ins x C fs)
theorem BorOk.there {K:PySem.W.Frag} {G H:Hp} {a:Addr} {o:OO} (h:BorOk K G H a o):H a≠none:=by
  cases o with
  | lst ds=>exact OwnOk.there (K:=K) (G:=G) (o:=.lst ds) h
  | ins x C fs=>exact OwnOk.there (K:=K) (G:=G) (o:=.ins x C fs) h
  | dk kvs=>obtain ⟨o,vs,e,_⟩:=h;rw [e];simp
  | dt kvs=>obtain ⟨o,vs,e,_⟩:=h;rw [e];simp
theorem BorOk.keep {K:PySem.W.Frag} {G H G' H':Hp} {a:Addr} {o:OO} (h:BorOk K G H a o) (e:Ex G G') (k:H' a=H a):BorOk K G' H' a o:=by
  cases o with
  | lst ds=>exact OwnOk.keep (o:=.lst ds) h e k
  | ins x C fs=>exact OwnOk.keep (o:=.ins x C fs) h e k
  | dk kvs=>obtain ⟨o,vs,q,r⟩:=h;exact ⟨o,vs,by rw [k];exact q,r.mono e⟩
  | dt kvs=>obtain ⟨o,vs,q,r⟩:=h;exact ⟨o,vs,by rw [k];exact q,r.mono e⟩
def SeeOk (K:PySem.W.Frag) (G H:Hp) (a:Addr) (o:OO):Prop:=OwnOk K G H a o
def SrcOk (K:PySem.W.Frag) (G H:Hp) (a c:Addr):Prop:=G a=none/\∃ (ns:List Int) (i r sd n:Int),
  H a=some (.lst [.ref c,.int i,.int r,.int sd,.int n])/\SqL K G c (ns.map V.int)/\ns.length<=63/\0<=i/\0<=r/\0<=sd/\sd < 4294967296
def TabOk (G H:Hp) (a:Addr) (q:Str):Prop:=G a=none/\∃ ps:Array Value,H a=some (.tbl ps)/\TriplesOk ps.toList/\∀ (pos:Pos) (cv:Value),codeAmong pos ps.toList=some cv->∃ c,cv=.ref c/\G c=some (LamX.CodeO c q)
inductive Kd where
  | src (c:Addr) | tab (q:Str) | mt (C:Addr)
abbrev So:=List (Addr × Kd)
def So.Vol (so:So) (a:Addr):Prop:=∃ k,(a,k)∈so
abbrev So.Nt (so:So) (a:Addr):Prop:=¬ so.Vol a
def So.Nq (so:So) (a:Addr):Prop:=∀ k,(a,k)∈so->∃ C,k=.mt C
theorem So.Nt.q {so:So} {a:Addr} (h:so.Nt a):so.Nq a:=fun k e=>absurd ⟨k,e⟩ h
def lamNames:List Str:=["law","Tableau.improve","Ways.layer_step","_law_layer_step","plain_forms","_law_triangles","_law_case_layer","_law_fact_row","needless","exchangeable","_law_may","_law_set","_law_joined_due","_law_kept_by_hand"]
def lamFns (K:PySem.W.Frag):List (Addr × Addr × Str):=K.filterMap fun p=>match p.2.data with
  | .func fd=>(match fd.code with
    | .ref c=>if lamNames.contains fd.qualname then some (c,He.tabOf K c,fd.qualname++".<locals>."++"<lambda>") else none
    | _=>none)
  | _=>none
structure SoOk (K:PySem.W.Frag) (so:So):Prop where
  tb:∀ q∈lamFns K,(q.2.1,Kd.tab q.2.2)∈so
  uq:∀ a k k',(a,k)∈so->(a,k')∈so->k=k'
def KOk (K:PySem.W.Frag) (G H:Hp) (a:Addr):Kd->Prop
  | .src c=>SrcOk K G H a c
  | .tab q=>TabOk G H a q
  | .mt C=>G a=none/\((∃ dx vs,H a=some (.ins C dx vs)/\G dx=some (.own a))\/∃ vs,H a=some (.lst vs)\/(∃ ks,H a=some (.dK ks))\/∃ ks,H a=some (.dT ks))
theorem KOk.g {K:PySem.W.Frag} {G H:Hp} {a:Addr} {k:Kd} (h:KOk K G H a k):G a=none:=by
  cases k with
  | src c=>exact h.1
  | tab q=>exact h.1
  | mt C=>exact h.1
theorem KOk.there {K:PySem.W.Frag} {G H:Hp} {a:Addr} {k:Kd} (h:KOk K G H a k):H a≠none:=by
  cases k with
  | src c=>obtain ⟨_,_,_,_,_,_,e,_⟩:=h;rw [e];simp
  | tab q=>obtain ⟨_,_,e,_⟩:=h;rw [e];simp
  | mt C=>obtain ⟨_,⟨_,_,e,_⟩ | ⟨_,e | ⟨_,e⟩ | ⟨_,e⟩⟩⟩:=h<;>(rw [e];simp)
theorem KOk.keep {K:PySem.W.Frag} {H H' G G':Hp} {a:Addr} {k:Kd} (s:KOk K G H a k) (e:Ex G G') (g:G' a=none) (q:H' a=H a):KOk K G' H' a k:=by
  cases k with
  | src c=>
    obtain ⟨_,ns,i,r,sd,n,h1,h2,h3⟩:=s
    exact ⟨g,ns,i,r,sd,n,by rw [q];exact h1,ex_l e h2,h3⟩
  | tab z=>
    obtain ⟨_,ps,h1,h2,h3⟩:=s
    exact ⟨g,ps,by rw [q];exact h1,h2,fun pos cv hc=>let ⟨c,e1,e2⟩:=h3 pos cv hc;⟨c,e1,e _ _ e2⟩⟩
  | mt C=>
    obtain ⟨_,⟨dx,vs,h1,h2⟩ | ⟨vs,h⟩⟩:=s
    · exact ⟨g,.inl ⟨dx,vs,by rw [q];exact h1,e _ _ h2⟩⟩
    · exact ⟨g,.inr ⟨vs,by rw [q];exact h⟩⟩
def VOk (K:PySem.W.Frag) (G:Hp) (so:So) (H:Hp) (v:V):DV->Prop
  | .d x=>DOk K G v x
  | .src=>∃ a,(∃ c,(a,.src c)∈so)/\v=.ref a
  | .own o=>∃ a,v=.ref a/\G a=none/\so.Nt a/\OwnOk K G H a o
  | .bor o=>∃ a,v=.ref a/\so.Nt a/\BorOk K G H a o
  | .see o=>∃ a,v=.ref a/\so.Nt a/\SeeOk K G H a o
  | .mu _ _ _=>False
  | .gh _ _=>False
def SlOk (K:PySem.W.Frag) (G:Hp) (so:So) (H:Hp) (v:V):DV->Prop
  | .mu x C fs=>v=.ref x/\(x,.mt C)∈so/\∃ dx vs,H x=some (.ins C dx vs)/\FAll K G vs fs
  | .gh x r=>v=.ref x/\(∀ a∈r.as,(a,.mt 0)∈so/\H a≠none)/\r.R K G H
  | dv=>VOk K G so H v dv
structure HRep (K:PySem.W.Frag) (G:Hp) (so:So) (H:Hp):Prop where
  ex:Ex G H
  vol:∀ a k,(a,k)∈so->KOk K G H a k
  ok:SoOk K so
  tp:∀ a xs,H a=some (.tup xs)->G a=some (.tup xs)
theorem ad7 {G H:Hp} {a:Addr} {o:HO} (h:∀ b xs,H b=some (.tup xs)->G b=some (.tup xs)) (nt:∀ xs,o≠.tup xs):∀ b xs,(upd H a o) b=some (.tup xs)->G b=some (.tup xs):=fun b xs e=>by
  by_cases z:b=a
  · subst z;rw [upd_same] at e;exact absurd (Option.some.inj e) (nt xs)
  · rw [upd_ne z] at e;exact h b xs e
theorem tp_G {G H:Hp} {a:Addr} {u:HO} (h:∀ b xs,H b=some (.tup xs)->G b=some (.tup xs)) (ga:G a=none):∀ b xs,H b=some (.tup xs)->(upd G a u) b=some (.tup xs):=fun b xs e=>by
  have g:=h b xs e
  rw [upd_ne (fun z=>by rw [z,ga] at g;cases g)];exact g
theorem ahj {G H:Hp} {a:Addr} {o:HO} (h:∀ b xs,H b=some (.tup xs)->G b=some (.tup xs)):∀ b xs,(upd H a o) b=some (.tup xs)->(upd G a o) b=some (.tup xs):=fun b xs e=>by
  by_cases z:b=a
  · subst z;rw [upd_same] at e ⊢;exact e
  · rw [upd_ne z] at e ⊢;exact h b xs e
theorem HRep.nsrc {K:PySem.W.Frag} {G:Hp} {so:So} {H:Hp} (h:HRep K G so H) {a:Addr} {o:HO} (q:G a=some o):so.Nt a:=fun ⟨k,z⟩=>by
  rw [(h.vol a k z).g] at q;cases q
theorem HRep.there {K:PySem.W.Frag} {G:Hp} {so:So} {H:Hp} (h:HRep K G so H) {a:Addr} (q:H a=none):so.Nt a:=fun ⟨k,z⟩=>(h.vol a k z).there q
theorem HRep.vth {K:PySem.W.Frag} {G:Hp} {so:So} {H:Hp} (h:HRep K G so H) {a:Addr} (s:so.Vol a):H a≠none:=fun q=>h.there q s
abbrev DSt:=List (Option DV)
def Own (sl:DSt) (σ:L2.St) (a:Addr):Prop:=∃ (i:Nat) (o:OO),sl[i]?=some (some (.own o))/\σ[i]?=some (some (.ref a))
structure Rep (K:PySem.W.Frag) (G:Hp) (so:So) (σ:L2.St) (H:Hp) (sl:DSt):Prop where
  h:HRep K G so H
  len:sl.length=σ.length
  slots:∀ (i:Nat) (dv:DV),sl[i]?=some (some dv)->∃ v,σ[i]?=some (some v)/\SlOk K G so H v dv
  sep:∀ (i j:Nat) (o o':OO) (a:Addr),sl[i]?=some (some (.own o))->sl[j]?=some (some (.own o'))->σ[i]?=some (some (.ref a))->σ[j]?=some (some (.ref a))->i=j
  bor:∀ (i:Nat) (o:OO) (a:Addr),sl[i]?=some (some (.bor o))->σ[i]?=some (some (.ref a))->¬ Own sl σ a
  nse:∀ (i:Nat) (o:OO),sl[i]?≠some (some (.see o))
structure Post (K:PySem.W.Frag) (G:Hp) (so:So) (σ:L2.St) (H:Hp) (sl:DSt) (H' G':Hp) (sl':DSt):Prop where
  ex:Ex G G'
  rep:Rep K G' so σ H' sl'
  keep:∀ a o,H a=some o->so.Nt a->H' a=some o
  frm:∀ a,H a≠none->G a=none->so.Nt a->¬ Own sl σ a->G' a=none
  sub:∀ a,Own sl' σ a->Own sl σ a
  bsub:∀ (i:Nat) (o:OO),sl'[i]?=some (some (.bor o))->∃ o',sl[i]?=some (some (.bor o'))
structure PostE (K:PySem.W.Frag) (G:Hp) (so:So) (σ:L2.St) (H:Hp) (sl:DSt) (v:V) (H' G':Hp) (dv:DV) (sl':DSt):Prop extends Post K G so σ H sl H' G' sl' where
  val:VOk K G' so H' v dv
  new:∀ a o,dv=.own o->v=.ref a->H a=none\/Own sl σ a
  sepv:∀ a o,dv=.own o\/dv=.bor o->v=.ref a->¬ Own sl' σ a
  nbs:∀ (a:Addr) (o:OO) (i:Nat) (o':OO),dv=.own o->v=.ref a->sl'[i]?=some (some (.bor o'))->σ[i]?=some (some (.ref a))->False
section
variable {K:PySem.W.Frag} {G G1 G2:Hp} {so:So} {σ:L2.St} {H H1 H2:Hp} {sl s1 s2:DSt} {v x y:V} {dv dx dy:DV}
theorem Rep.nown (r:Rep K G so σ H sl) {a:Addr} (h:Own sl σ a):H a≠none/\G a=none/\so.Nt a:=by
  obtain ⟨i,o,e1,e2⟩:=h
  obtain ⟨v,e3,e4⟩:=r.slots i _ e1
  rw [e2] at e3;cases e3
  obtain ⟨b,q,g,s,k⟩:=e4
  cases q
  exact ⟨k.there,g,s⟩
theorem Post.refl (r:Rep K G so σ H sl):Post K G so σ H sl H G sl:=⟨Ex.refl G,r,fun _ _ e _=>e,fun _ _ g _ _=>g,fun _ o=>o,fun _ o e=>⟨o,e⟩⟩
theorem ajE {H H':Hp} {so:So} (k:∀ a o,H a=some o->so.Nq a->H' a=some o) {a:Addr} (n:H a≠none) (s:so.Nq a):H' a=H a:=by
  cases q:H a with
  | none=>exact absurd q n
  | some o=>exact k a o q s
theorem aaU {H H':Hp} {so:So} (k:∀ a o,H a=some o->so.Nt a->H' a=some o) {a:Addr} (n:H a≠none) (s:so.Nt a):H' a=H a:=by
  cases q:H a with
  | none=>exact absurd q n
  | some o=>exact k a o q s
theorem Post.trans (a:Post K G so σ H sl H1 G1 s1) (b:Post K G1 so σ H1 s1 H2 G2 s2):Post K G so σ H sl H2 G2 s2:=
  ⟨a.ex.trans b.ex,b.rep,fun c o e s=>b.keep c o (a.keep c o e s) s,fun c n g s w=>by
    have n1:H1 c≠none:=by rw [aaU a.keep n s];exact n
    exact b.frm c n1 (a.frm c n g s w) s fun z=>w (a.sub c z),fun c o=>a.sub c (b.sub c o),fun i o e=>let ⟨o1,e1⟩:=b.bsub i o e;a.bsub i o1 e1⟩
theorem VOk.keep (h:VOk K G so H x dx) (e:Ex G G1) (k:∀ a o,H a=some o->so.Nt a->H1 a=some o) (g:∀ a o,dx=.own o->x=.ref a->G1 a=none):VOk K G1 so H1 x dx:=by
  cases dx with
  | d z=>exact DOk.mono e h
  | src=>exact h
  | own o=>
    obtain ⟨a,q,q1,q2,q3⟩:=h
    exact ⟨a,q,g a o rfl q,q2,q3.keep e (aaU k q3.there q2)⟩
  | bor o=>
    obtain ⟨a,q,q2,q3⟩:=h
    exact ⟨a,q,q2,q3.keep e (aaU k q3.there q2)⟩
  | see o=>
    obtain ⟨a,q,q2,q3⟩:=h
    exact ⟨a,q,q2,q3.keep e (aaU k q3.there q2)⟩
  | mu y C fs=>exact h
  | gh y r=>exact h
theorem SlOk.keep (h:SlOk K G so H x dx) (ok:SoOk K so) (e:Ex G G1) (k:∀ a o,H a=some o->so.Nq a->H1 a=some o) (g:∀ a o,dx=.own o->x=.ref a->G1 a=none):SlOk K G1 so H1 x dx:=by
  have k':∀ a o,H a=some o->so.Nt a->H1 a=some o:=fun a o e s=>k a o e s.q
  cases dx with
  | mu y C fs=>
    obtain ⟨q,m,dx,vs,h1,h2⟩:=h
    exact ⟨q,m,dx,vs,k y _ h1 fun k' e'=>⟨C,ok.uq y k' (.mt C) e' m⟩,h2.mono e⟩
  | gh y r=>
    obtain ⟨q,m,h1⟩:=h
    have kp:∀ a∈r.as,H1 a=H a:=fun a ha=>by
      obtain ⟨m1,m2⟩:=m a ha
      obtain ⟨o,z⟩:=Option.ne_none_iff_exists'.mp m2
      rw [z,k a o z fun k' e'=>⟨0,ok.uq a k' (.mt 0) e' m1⟩]
    exact ⟨q,fun a ha=>⟨(m a ha).1,by rw [kp a ha];exact (m a ha).2⟩,r.st K G G1 H H1 e kp h1⟩
  | d z=>exact VOk.keep (dx:=.d z) h e k' g
  | src=>exact VOk.keep (K:=K) (dx:=.src) h e k' g
  | own o=>exact VOk.keep (dx:=.own o) h e k' g
  | bor o=>exact VOk.keep (dx:=.bor o) h e k' g
  | see o=>exact VOk.keep (dx:=.see o) h e k' g
theorem SlOk.val (h:SlOk K G so H x dx) (n:∀ y C fs,dx≠.mu y C fs) (n2:∀ y r,dx≠.gh y r):VOk K G so H x dx:=by
  cases dx with
  | mu y C fs=>exact absurd rfl (n y C fs)
  | gh y r=>exact absurd rfl (n2 y r)
  | _=>exact h
theorem VOk.slot (h:VOk K G so H x dx):SlOk K G so H x dx:=by
  cases dx with
  | mu y C fs=>exact h.elim
  | gh y r=>exact h.elim
  | _=>exact h
theorem SlOk.muU {a y C:Addr} {o:HO} {fs:List (Str × D)} (h:SlOk K G so H x (.mu y C fs)) (e:Ex G G1) (n:so.Nt a):SlOk K G1 so (upd H a o) x (.mu y C fs):=by
  obtain ⟨q,m,dx,vs,h1,h2⟩:=h
  exact ⟨q,m,dx,vs,by rw [upd_ne (fun z=>n ⟨_,z ▸ m⟩)];exact h1,h2.mono e⟩
theorem SlOk.ghU {a y:Addr} {o:HO} {r:GR} (h:SlOk K G so H x (.gh y r)) (e:Ex G G1) (n:so.Nt a):SlOk K G1 so (upd H a o) x (.gh y r):=by
  obtain ⟨q,m,h1⟩:=h
  have kp:∀ b∈r.as,upd H a o b=H b:=fun b hb=>upd_ne (fun z=>n ⟨_,z ▸ (m b hb).1⟩)
  exact ⟨q,fun b hb=>⟨(m b hb).1,by rw [kp b hb];exact (m b hb).2⟩,r.st K G G1 H _ e kp h1⟩
theorem PostE.over (a:PostE K G so σ H sl x H1 G1 dx s1) (b:Post K G1 so σ H1 s1 H2 G2 s2):VOk K G2 so H2 x dx:=
  a.val.keep b.ex b.keep fun c o e q=>by
    have w:VOk K G1 so H1 x dx:=a.val
    rw [e] at w
    obtain ⟨c',q',g,s,k⟩:=w
    rw [q] at q';cases q'
    exact b.frm c k.there g s (a.sepv c o (.inl e) q)
end
structure PostV (K:PySem.W.Frag) (G:Hp) (so:So) (H:Hp) (v:V) (H' G':Hp) (dv:DV):Prop where
  ex:Ex G G'
  hrep:HRep K G' so H'
  keep:∀ a o,H a=some o->so.Nq a->H' a=some o
  frm:∀ a,H a≠none->G a=none->so.Nt a->G' a=none
  val:VOk K G' so H' v dv
  new:∀ a o,dv=.own o->v=.ref a->H a=none
  nob:∀ o,dv≠.bor o
section
variable {K:PySem.W.Frag} {G G':Hp} {so:So} {σ:L2.St} {H H':Hp} {sl:DSt} {v:V} {dv:DV}
theorem PostV.slots (p:PostV K G so H v H' G' dv) (r:Rep K G so σ H sl):PostE K G so σ H sl v H' G' dv sl where
  ex:=p.ex
  rep:=⟨p.hrep,r.len,fun i d e=>by
    obtain ⟨w,e1,e2⟩:=r.slots i d e
    refine ⟨w,e1,SlOk.keep e2 r.h.ok p.ex p.keep fun a o ed q=>?_⟩
    subst ed
    subst q
    obtain ⟨n,g,s⟩:=r.nown ⟨i,o,e,e1⟩
    exact p.frm a n g s,r.sep,r.bor,r.nse⟩
  keep:=fun a o e s=>p.keep a o e s.q
  frm:=fun a n g s _=>p.frm a n g s
  sub:=fun _ o=>o
  bsub:=fun _ o e=>⟨o,e⟩
  val:=p.val
  new:=fun a o e q=>.inl (p.new a o e q)
  sepv:=fun a o e q z=>e.elim (fun e=>(r.nown z).1 (p.new a o e q)) fun e=>p.nob o e
  nbs:=fun a o i o' e q e1 e2=>by
    obtain ⟨w,f1,f2⟩:=r.slots i _ e1
    rw [e2] at f1;cases f1
    obtain ⟨b,z,_,k⟩:=f2
    cases z
    exact k.there (p.new a o e q)
theorem PostV.pure (h:HRep K G so H) (w:VOk K G so H v dv) (n:∀ o,dv≠.own o) (m:∀ o,dv≠.bor o):PostV K G so H v H G dv:=
  ⟨Ex.refl G,h,fun _ _ e _=>e,fun _ _ g _=>g,w,fun _ o e=>absurd e (n o),m⟩
theorem PostV.dat {x:D} (h:HRep K G so H) (w:DOk K G v x):PostV K G so H v H G (.d x):=.pure h w (fun _ e=>(nomatch e)) fun _ e=>(nomatch e)
theorem HRep.alloc {p:Addr} {o:HO} (h:HRep K G so H) (n:H p=none) (nt:∀ xs,o≠.tup xs:=by intro _ z;cases z):HRep K G so (upd H p o):=
  ⟨h.ex.trans (Ex.new n),fun a k e=>(h.vol a k e).keep (Ex.refl G) (h.vol a k e).g (upd_ne fun z=>h.there n (z ▸ ⟨k,e⟩)),h.ok,ad7 h.tp nt⟩
theorem HRep.allocG {p:Addr} {o:HO} (h:HRep K G so H) (n:H p=none):HRep K (upd G p o) so (upd H p o):=
  ⟨h.ex.up,fun a k e=>
    have z:a≠p:=fun z=>h.there n (z ▸ ⟨k,e⟩)
    (h.vol a k e).keep (Ex.new (h.ex.free n)) (by rw [upd_ne z];exact (h.vol a k e).g) (upd_ne z),h.ok,ahj h.tp⟩
theorem PostV.list {p:Addr} {vs:List V} {ds:List D} (h:HRep K G so H) (n:H p=none) (a:DAll K G vs ds):PostV K G so H (.ref p) (upd H p (.lst vs)) G (.own (.lst ds)):=
  ⟨Ex.refl G,h.alloc n,fun _ _ e _=>Ex.new n _ _ e,fun _ _ g _=>g,⟨p,rfl,h.ex.free n,h.there n,vs,upd_same,a⟩,fun b o e q=>(by cases q;exact n),fun _ e=>(nomatch e)⟩
theorem PostV.tuple {p:Addr} {vs:List V} {ds:List D} (h:HRep K G so H) (n:H p=none) (a:DAll K G vs ds):PostV K G so H (.ref p) (upd H p (.tup vs)) (upd G p (.tup vs)) (.d (.tup ds)):=
  ⟨Ex.new (h.ex.free n),h.allocG n,fun _ _ e _=>Ex.new n _ _ e,fun b q g _=>by rw [upd_ne (fun z=>by subst z;exact q n)];exact g,
    .tup (SqT.of upd_same) (a.mono (Ex.new (h.ex.free n))),fun _ o e=>(nomatch e),fun _ e=>(nomatch e)⟩
theorem PostV.trans {v1 v2:V} {d1 d2:DV} {H1 H2 G1 G2:Hp} (a:PostV K G so H v1 H1 G1 d1) (b:PostV K G1 so H1 v2 H2 G2 d2):PostV K G so H v2 H2 G2 d2:=
  ⟨a.ex.trans b.ex,b.hrep,fun c o e s=>b.keep c o (a.keep c o e s) s,fun c n g s=>b.frm c (by rw [ajE a.keep n s.q];exact n) (a.frm c n g s) s,b.val,fun c o e q=>by
    cases z:H c with
    | none=>rfl
    | some u=>
      have n:=b.new c o e q
      by_cases s:so.Vol c
      · exact absurd n (a.hrep.vth s)
      · rw [a.keep c u z (So.Nt.q s)] at n
        exact (nomatch n),b.nob⟩
end
def tpUp (G H2:Hp):Hp:=fun b=>match H2 b with
  | some (.tup xs)=>some (.tup xs)
  | _=>G b
section
variable {K:PySem.W.Frag} {G:Hp} {so:So} {H H2:Hp}
theorem ahk (h:HRep K G so H) (e:Ex H H2):Ex G (tpUp G H2):=fun b o q=>by
  have z:=e b o (h.ex b o q)
  unfold tpUp
  rw [z]
  cases o<;>first | rfl | exact q
theorem agF {b:Addr} (h:HRep K G so H) (e:Ex H H2) (n:H b≠none) (g:G b=none):tpUp G H2 b=none:=by
  cases q:H b with
  | none=>exact absurd q n
  | some o=>
    have z:=e b o q
    unfold tpUp
    rw [z]
    cases o with
    | tup xs=>rw [h.tp b xs q] at g;cases g
    | _=>exact g
theorem HRep.grow (h:HRep K G so H) (e:Ex H H2):HRep K (tpUp G H2) so H2:=by
  refine ⟨fun b o q=>?_,fun a k q=>?_,h.ok,fun b xs q=>by unfold tpUp;rw [q]⟩
  · unfold tpUp at q
    split at q
    · rename_i xs z;cases q;exact z
    · exact e b o (h.ex b o q)
  · have t:=(h.vol a k q).there
    have same:H2 a=H a:=by
      cases z:H a with
      | none=>exact absurd z t
      | some o=>exact e a o z
    exact (h.vol a k q).keep (ahk h e) (agF h e t (h.vol a k q).g) same
end
abbrev XP:=Value->List (Str × D)->DSt->Prop
abbrev TD:=DSt->(DV->DSt->Prop)->XP->Prop
abbrev TDT:=DSt->(Bool->DSt->Prop)->XP->Prop
abbrev TDA:=DSt->(List DV->DSt->Prop)->XP->Prop
structure EndsD where
  nx:DSt->Prop
  rt:DV->DSt->Prop
  bk:DSt->Prop
  ct:DSt->Prop
  xc:XP
abbrev TDS:=EndsD->DSt->Prop
def XdOk (K:PySem.W.Frag) (G H:Hp):Option Addr->List (Str × D)->Prop
  | some dx,fs=>∃ vs,H dx=some (.xd vs)/\FAll K G vs fs
  | none,fs=>fs=[]
def XOk (K:PySem.W.Frag) (W:WX) (G:Hp) (so:So) (σ:L2.St) (H:Hp) (sl:DSt) (E:XP):Prop:=
  ∀ cls d H' G' fs sl',Post K G so σ H sl H' G' sl'->XdOk K G' H' d fs->E cls fs sl'->W cls d σ H'
inductive VsOk (K:PySem.W.Frag) (G:Hp) (so:So) (H:Hp):List V->List DV->Prop
  | nil:VsOk K G so H [] []
  | cons {v:V} {d:DV} {vs:List V} {ds:List DV}:VOk K G so H v d->(∀ o,d≠.own o)->VsOk K G so H vs ds->VsOk K G so H (v::vs) (d::ds)
section
variable (K:PySem.W.Frag) (W:WX)
def up (t:TD):TE:=fun σ H R=>∃ G so sl Q E,Rep K G so σ H sl/\t sl Q E/\(∀ v H' G' dv sl',PostE K G so σ H sl v H' G' dv sl'->Q dv sl'->R v H')/\XOk K W G so σ H sl E
def upT (t:TDT):TT:=fun σ H R=>∃ G so sl Q E,Rep K G so σ H sl/\t sl Q E/\(∀ b H' G' sl',Post K G so σ H sl H' G' sl'->Q b sl'->R b H')/\XOk K W G so σ H sl E
def upA (t:TDA):TA:=fun σ H R=>∃ G so sl Q E,Rep K G so σ H sl/\t sl Q E/\(∀ vs H' G' ds sl',Post K G so σ H sl H' G' sl'->VsOk K G' so H' vs ds->Q ds sl'->R vs H')/\XOk K W G so σ H sl E
end
def DE (X:Cx) (W:WX) (e:Expr) (t:TD):Prop:=PE X e (up X.K W t)
def DT (X:Cx) (W:WX) (e:Expr) (t:TDT):Prop:=PT X e (upT X.K W t)
def DA (X:Cx) (W:WX) (es:List Expr) (t:TDA):Prop:=PA X es (upA X.K W t)
theorem aa6 {X:Cx} {e:Expr} {t t':TE} (h:PE X e t) (f:∀ σ H R,t' σ H R->t σ H R):PE X e t':=⟨fun pins s σ H Q I q=>h.run pins s σ H Q I (f _ _ _ q)⟩
theorem afF {X:Cx} {e:Expr} {t t':TT} (h:PT X e t) (f:∀ σ H R,t' σ H R->t σ H R):PT X e t':=⟨fun pins s σ H Q I q=>h.run pins s σ H Q I (f _ _ _ q)⟩
theorem akW {X:Cx} {e:Expr} {t t':TT} (h:PW X e t) (f:∀ σ H R,t' σ H R->t σ H R):PW X e t':=⟨fun wh pins s σ H Q I q=>h.run wh pins s σ H Q I (f _ _ _ q)⟩
theorem ak1 {X:Cx} {es:List Expr} {t t':TA} (h:PA X es t) (f:∀ σ H R,t' σ H R->t σ H R):PA X es t':=⟨fun pos pins s σ H Q I q=>h.run pos pins s σ H Q I (f _ _ _ q)⟩
theorem ac8 {X:Cx} {e:Stmt} {t t':TS} (h:PS X e t) (f:∀ D σ H,t' D σ H->t D σ H):PS X e t':=⟨fun pins s σ H Q I q=>h.run pins s σ H Q I (f _ _ _ q)⟩
theorem ajd {X:Cx} {e:List Stmt} {t t':TS} (h:PSs X e t) (f:∀ D σ H,t' D σ H->t D σ H):PSs X e t':=⟨fun pins s σ H Q I q=>h.run pins s σ H Q I (f _ _ _ q)⟩
section
variable {K:PySem.W.Frag} {W:WX} {G G1 G2:Hp} {so:So} {σ:L2.St} {H H1 H2:Hp} {sl s1 s2:DSt} {v x y:V} {dv dx dy:DV} {E:XP}
theorem XOk.step (h:XOk K W G so σ H sl E) (p:Post K G so σ H sl H1 G1 s1):XOk K W G1 so σ H1 s1 E:=fun cls d H' G' fs sl' q a b=>h cls d H' G' fs sl' (p.trans q) a b
theorem Post.back (a:Post K G so σ H sl H1 G1 s1) {c:Addr} (n:H1 c=none):H c=none:=by
  cases z:H c with
  | none=>rfl
  | some u=>
    by_cases s:so.Vol c
    · exact absurd n (a.rep.h.vth s)
    · rw [a.keep c u z s] at n;cases n
theorem Post.thenE (a:Post K G so σ H sl H1 G1 s1) (b:PostE K G1 so σ H1 s1 v H2 G2 dv s2):PostE K G so σ H sl v H2 G2 dv s2:=
  { a.trans b.toPost with
    val:=b.val
    new:=fun c o e q=>(b.new c o e q).imp a.back (a.sub c)
    sepv:=b.sepv
    nbs:=b.nbs }
theorem Post.thenV (a:Post K G so σ H sl H1 G1 s1) (b:PostV K G1 so H1 v H2 G2 dv):PostE K G so σ H sl v H2 G2 dv s1:=a.thenE (b.slots a.rep)
theorem VsOk.keep:∀ {vs:List V} {ds:List DV},VsOk K G so H vs ds->Ex G G1->(∀ a o,H a=some o->so.Nt a->H1 a=some o)->VsOk K G1 so H1 vs ds
  | _,_,.nil,_,_=>.nil
  | _,_,.cons h n t,e,k=>.cons (h.keep e k fun a o q=>absurd q (n o)) n (VsOk.keep t e k)
theorem VsOk.length:∀ {vs:List V} {ds:List DV},VsOk K G so H vs ds->vs.length=ds.length
  | _,_,.nil=>rfl
  | _,_,.cons _ _ t=>congrArg (· + 1) (VsOk.length t)
end
def pubO:OO->D
  | .lst ds=>.lst ds
  | .ins _ C fs=>.ins C fs
  | .dk _=>.any
  | .dt _=>.any
def pubV:DV->DV
  | .own o=>.d (pubO o)
  | x=>x
theorem ahZ (dv:DV):∀ o,pubV dv≠.own o:=fun o h=>by cases dv<;>cases h
section
variable {K:PySem.W.Frag} {W:WX} {G G1 G2:Hp} {so:So} {σ:L2.St} {H H1 H2:Hp} {sl s1 s2:DSt} {v x y:V} {dv dx dy:DV} {E:XP}
theorem ajk {a:Addr} {o:OO} (h:OwnOk K G H a o) (g:G a=none):∃ u,H a=some u/\DOk K (upd G a u) (.ref a) (pubO o):=by
  cases o with
  | lst ds=>obtain ⟨vs,e,r⟩:=h;exact ⟨_,e,.lst upd_same (r.mono (Ex.new g))⟩
  | ins x C fs=>obtain ⟨_,dx,vs,e,gd,r⟩:=h;exact ⟨_,e,.ins upd_same (Ex.new g _ _ gd) (r.mono (Ex.new g))⟩
  | dk kvs=>obtain ⟨vs,e,r⟩:=h;exact ⟨_,e,.any _⟩
  | dt kvs=>obtain ⟨vs,e,r⟩:=h;exact ⟨_,e,.any _⟩
theorem aes {a:Addr} {u:HO} (h:HRep K G so H) (e:H a=some u) (g:G a=none) (s:so.Nt a):HRep K (upd G a u) so H:=
  ⟨fun b o q=>by
    by_cases z:b=a
    · subst z;rw [upd_same] at q;cases q;exact e
    · rw [upd_ne z] at q;exact h.ex b o q,
  fun b k q=>by
    have z:b≠a:=fun z=>s (z ▸ ⟨k,q⟩)
    exact (h.vol b k q).keep (Ex.new g) (by rw [upd_ne z];exact (h.vol b k q).g) rfl,h.ok,tp_G h.tp g⟩
theorem alB {a:Addr} {u:HO} (r:Rep K G so σ H sl) (e:H a=some u) (g:G a=none) (s:so.Nt a) (n:¬ Own sl σ a):Rep K (upd G a u) so σ H sl:=
  ⟨aes r.h e g s,r.len,fun i d q=>by
    obtain ⟨w,e1,e2⟩:=r.slots i d q
    refine ⟨w,e1,SlOk.keep e2 r.h.ok (Ex.new g) (fun _ _ z _=>z) fun b o ed qb=>?_⟩
    subst ed;subst qb
    have z:b≠a:=fun z=>n ⟨i,o,q,z ▸ e1⟩
    rw [upd_ne z];exact (r.nown ⟨i,o,q,e1⟩).2.1,r.sep,r.bor,r.nse⟩
theorem PostE.pub (p:PostE K G so σ H sl v H1 G1 dv s1):∃ G2,PostE K G so σ H sl v H1 G2 (pubV dv) s1:=by
  cases dv with
  | d x=>exact ⟨G1,p⟩
  | src=>exact ⟨G1,p⟩
  | bor o=>exact ⟨G1,p⟩
  | see o=>exact ⟨G1,p⟩
  | mu _ _ _=>exact ⟨G1,p⟩
  | gh _ _=>exact ⟨G1,p⟩
  | own o=>
    obtain ⟨a,q,g,s,ok⟩:=p.val
    subst q
    obtain ⟨u,e,dk⟩:=ajk ok g
    have n:=p.sepv a o (.inl rfl) rfl
    refine ⟨upd G1 a u,{ ex:=p.ex.trans (Ex.new g),rep:=alB p.rep e g s n,keep:=p.keep,frm:=fun b n1 g1 s1' w=>?_,sub:=p.sub,bsub:=p.bsub,val:=dk,new:=fun _ o' e'=>(nomatch e'),sepv:=fun _ o' e'=>e'.elim (fun e'=>(nomatch e')) fun e'=>(nomatch e'),nbs:=fun _ _ _ _ e'=>(nomatch e') }⟩
    have z:b≠a:=fun z=>by
      subst z
      rcases p.new b o rfl rfl with k | k
      · exact n1 k
      · exact w k
    rw [upd_ne z];exact p.frm b n1 g1 s1' w
end
def dC (x:D):TD:=fun sl Q _=>Q (.d x) sl
def dVar (i:Nat):TD:=fun sl Q _=>match sl[i]? with
  | some (some (.own o))=>Q (.d (pubO o)) (sl.set i (some (.d (pubO o))))
  | some (some (.mu _ _ _))=>False
  | some (some (.gh _ _))=>False
  | some (some dv)=>Q dv sl
  | _=>False
def dSee (i:Nat):TD:=fun sl Q _=>match sl[i]? with
  | some (some (.own o))=>Q (.see o) sl
  | some (some (.mu _ _ _))=>False
  | some (some (.gh _ _))=>False
  | some (some dv)=>Q dv sl
  | _=>False
section
variable {K:PySem.W.Frag} {W:WX} {G G1 G2:Hp} {so:So} {σ:L2.St} {H H1 H2:Hp} {sl s1 s2:DSt} {v x y:V} {dv dx dy:DV} {E:XP} {X:Cx}
theorem de_c {e:Expr} {u:V} {d:D} (h:PE X e (tC u)) (r:∀ G,DOk X.K G u d):DE X W e (dC d):=aa6 h fun σ H R ⟨G,so,sl,Q,E,rep,q,hq,_⟩=>
  hq u H G _ sl ((Post.refl rep).thenV (.dat rep.h (r G))) q
theorem aae {i:Int} {j:Nat} {pos:Pos}:DE X W (.Constant (.int i) j pos) (dC (.int i)):=de_c pe_int fun _=>.int _
theorem ahd {b:Bool} {j:Nat} {pos:Pos}:DE X W (.Constant (.bool b) j pos) (dC (.bl b)):=de_c pe_bl fun _=>.bl _
theorem acM {j:Nat} {pos:Pos}:DE X W (.Constant .none j pos) (dC .non):=de_c pe_non fun _=>.non
theorem aa3 {x:Str} {j:Nat} {pos:Pos}:DE X W (.Constant (.str x) j pos) (dC (.str x)):=de_c pe_str fun _=>.str _
theorem VOk.see {o:OO} (h:VOk K G so H v (.own o)):VOk K G so H v (.see o):=by
  obtain ⟨a,q,_,s,k⟩:=h
  exact ⟨a,q,s,k⟩
theorem PostE.here (rep:Rep K G so σ H sl) (w:VOk K G so H v dv) (n:∀ o,dv≠.own o) (m:∀ a o,dv=.bor o->v=.ref a->¬ Own sl σ a):PostE K G so σ H sl v H G dv sl:=
  { Post.refl rep with
    val:=w
    new:=fun _ o e=>absurd e (n o)
    sepv:=fun a o e q=>e.elim (fun e=>absurd e (n o)) fun e=>m a o e q
    nbs:=fun _ o _ _ e=>absurd e (n o) }
theorem own_set {i:Nat} {d:D} {a:Addr} (h:Own (sl.set i (some (.d d))) σ a):Own sl σ a/\σ[i]?≠some (some (.ref a))\/(Own sl σ a/\∃ j,j≠i/\∃ o,sl[j]?=some (some (.own o))/\σ[j]?=some (some (.ref a))):=by
  obtain ⟨j,o,e1,e2⟩:=h
  have ne:j≠i:=fun z=>by
    subst z
    rw [List.getElem?_set] at e1
    split at e1
    · split at e1<;>cases e1
    · rename_i k;exact k rfl
  rw [List.getElem?_set_ne ne.symm] at e1
  exact .inr ⟨⟨j,o,e1,e2⟩,j,ne,o,e1,e2⟩
theorem aac {i:Nat} {n:Str} {pos:Pos} (h:PE X (.Name n pos) (tVar i)):DE X W (.Name n pos) (dVar i):=aa6 h fun σ H R ⟨G,so,sl,Q,E,rep,q,hq,_⟩=>by
  unfold dVar at q
  split at q
  · rename_i o e
    obtain ⟨v,e1,w⟩:=rep.slots i _ e
    refine ⟨v,e1,?_⟩
    obtain ⟨a,qa,g,s,ok⟩:=w
    subst qa
    obtain ⟨u,eu,dk⟩:=ajk ok g
    have others:∀ b,Own (sl.set i (some (.d (pubO o)))) σ b->Own sl σ b/\b≠a:=fun b z=>by
      rcases own_set z with ⟨k1,k2⟩ | ⟨k1,j,ne,o',k2,k3⟩
      · exact ⟨k1,fun z=>k2 (z ▸ e1)⟩
      · exact ⟨k1,fun z=>ne (rep.sep j i o' o a k2 e (z ▸ k3) e1)⟩
    refine hq _ H (upd G a u) _ _ ?_ q
    refine { ex:=Ex.new g,rep:=⟨aes rep.h eu g s,by rw [List.length_set];exact rep.len,fun j d ej=>?_,fun j k o1 o2 b e1' e2' e3 e4=>?_,fun j o1 b e1' e2' z=>?_,fun j o1 z=>?_⟩,keep:=fun _ _ z _=>z,frm:=fun b n1 g1 s1 w=>?_,sub:=fun b z=>(others b z).1,bsub:=fun j o1 z=>?_,val:=dk,new:=fun _ o' e'=>(nomatch e'),sepv:=fun _ o' e'=>e'.elim (fun e'=>(nomatch e')) fun e'=>(nomatch e'),nbs:=fun _ _ _ _ e'=>(nomatch e') }
    · by_cases ji:j=i
      · subst ji
        rw [List.getElem?_set] at ej
        split at ej
        · split at ej
          · cases ej;exact ⟨_,e1,dk⟩
          · cases ej
        · rename_i k;exact absurd rfl k
      · rw [List.getElem?_set_ne (Ne.symm ji)] at ej
        obtain ⟨w',f1,f2⟩:=rep.slots j d ej
        refine ⟨w',f1,SlOk.keep f2 rep.h.ok (Ex.new g) (fun _ _ z _=>z) fun b o' ed qb=>?_⟩
        subst ed;subst qb
        have z:b≠a:=fun z=>ji (rep.sep j i o' o a ej e (z ▸ f1) e1)
        rw [upd_ne z];exact (rep.nown ⟨j,o',ej,f1⟩).2.1
    · have f:∀ (m:Nat) (o3:OO),(sl.set i (some (.d (pubO o))))[m]?=some (some (.own o3))->sl[m]?=some (some (.own o3)):=fun m o3 em=>by
        by_cases mi:m=i
        · subst mi
          rw [List.getElem?_set] at em
          split at em
          · split at em<;>cases em
          · rename_i k;exact absurd rfl k
        · rw [List.getElem?_set_ne (Ne.symm mi)] at em;exact em
      exact rep.sep j k o1 o2 b (f _ _ e1') (f _ _ e2') e3 e4
    · have ne:j≠i:=fun z=>by
        subst z
        rw [List.getElem?_set] at e1'
        split at e1'
        · split at e1'<;>cases e1'
        · rename_i k;exact absurd rfl k
      rw [List.getElem?_set_ne (Ne.symm ne)] at e1'
      exact rep.bor j o1 b e1' e2' (others b z).1
    · by_cases ne:j=i
      · subst ne
        rw [List.getElem?_set] at z
        split at z
        · split at z<;>cases z
        · rename_i k;exact absurd rfl k
      · rw [List.getElem?_set_ne (Ne.symm ne)] at z
        exact rep.nse j o1 z
    · have z:b≠a:=fun z=>w ⟨i,o,e,z ▸ e1⟩
      rw [upd_ne z];exact g1
    · by_cases ne:j=i
      · subst ne
        rw [List.getElem?_set] at z
        split at z
        · split at z<;>cases z
        · rename_i k;exact absurd rfl k
      · rw [List.getElem?_set_ne (Ne.symm ne)] at z
        exact ⟨o1,z⟩
  · exact q.elim
  · exact q.elim
  · rename_i dv no nm ng e
    obtain ⟨v,e1,w⟩:=rep.slots i _ e
    exact ⟨v,e1,hq v H G dv sl (.here rep (SlOk.val w (fun y C fs z=>nm y C fs z) fun y r z=>ng y r z) (fun o z=>no o z) fun a o z z2=>by subst z;subst z2;exact rep.bor i o a e e1) q⟩
  · exact q.elim
theorem aad {i:Nat} {n:Str} {pos:Pos} (h:PE X (.Name n pos) (tVar i)):DE X W (.Name n pos) (dSee i):=aa6 h fun σ H R ⟨G,so,sl,Q,E,rep,q,hq,_⟩=>by
  unfold dSee at q
  split at q
  · rename_i o e
    obtain ⟨v,e1,w⟩:=rep.slots i _ e
    exact ⟨v,e1,hq v H G _ sl (.here rep w.see (fun _ z=>(nomatch z)) fun _ _ z=>(nomatch z)) q⟩
  · exact q.elim
  · exact q.elim
  · rename_i dv no nm ng e
    obtain ⟨v,e1,w⟩:=rep.slots i _ e
    exact ⟨v,e1,hq v H G dv sl (.here rep (SlOk.val w (fun y C fs z=>nm y C fs z) fun y r z=>ng y r z) (fun o z=>no o z) fun a o z z2=>by subst z;subst z2;exact rep.bor i o a e e1) q⟩
  · exact q.elim
end
def OpSem (K:PySem.W.Frag) (r:R2) (rd:DV->DV->(DV->Prop)->Prop):Prop:=∀ (G:Hp) (so:So) (H:Hp) (x y:V) (dx dy:DV) (Q:DV->Prop) (R:VK),HRep K G so H->VOk K G so H x dx->VOk K G so H y dy->rd dx dy Q->
  (∀ v H' G' dv,PostV K G so H v H' G' dv->Q dv->R v H')->r x y H R
def UnSem (K:PySem.W.Frag) (r:V->Hp->VK->Prop) (rd:DV->(DV->Prop)->Prop):Prop:=∀ (G:Hp) (so:So) (H:Hp) (x:V) (dx:DV) (Q:DV->Prop) (R:VK),HRep K G so H->VOk K G so H x dx->rd dx Q->
  (∀ v H' G' dv,PostV K G so H v H' G' dv->Q dv->R v H')->r x H R
def CallSem (K:PySem.W.Frag) (r:List V->Hp->VK->Prop) (rd:List DV->(DV->Prop)->Prop):Prop:=∀ (G:Hp) (so:So) (H:Hp) (xs:List V) (dxs:List DV) (Q:DV->Prop) (R:VK),HRep K G so H->VsOk K G so H xs dxs->rd dxs Q->
  (∀ v H' G' dv,PostV K G so H v H' G' dv->Q dv->R v H')->r xs H R
def dOp (rd:DV->DV->(DV->Prop)->Prop) (ta tb:TD):TD:=fun sl Q E=>ta sl (fun x s1=>tb s1 (fun y s2=>rd x y fun z=>Q z s2) E) E
def dUn (rd:DV->(DV->Prop)->Prop) (ta:TD):TD:=fun sl Q E=>ta sl (fun x s1=>rd x fun z=>Q z s1) E
def dCB (rd:List DV->(DV->Prop)->Prop) (ta:TDA):TD:=fun sl Q E=>ta sl (fun xs s1=>rd xs fun z=>Q z s1) E
def dNil:TDA:=fun sl Q _=>Q [] sl
def dCons (ta:TD) (tr:TDA):TDA:=fun sl Q E=>ta sl (fun x s1=>tr s1 (fun xs s2=>Q (pubV x::xs) s2) E) E
section
variable {K:PySem.W.Frag} {W:WX} {σ:L2.St} {H:Hp} {R:VK} {ta tb:TD} {X:Cx} {a b e:Expr} {pos:Pos}
theorem aj8 {r:R2} {rd:DV->DV->(DV->Prop)->Prop} (hr:OpSem K r rd) (h:up K W (dOp rd ta tb) σ H R):tOp r (up K W ta) (up K W tb) σ H R:=by
  obtain ⟨G,so,sl,Q,E,rep,q,hq,hx⟩:=h
  refine ⟨G,so,sl,_,E,rep,q,fun x H1 G1 dx s1 p1 h1=>?_,hx⟩
  refine ⟨G1,so,s1,_,E,p1.rep,h1,fun y H2 G2 dy s2 p2 h2=>?_,hx.step p1.toPost⟩
  exact hr G2 so H2 x y dx dy _ R p2.rep.h (p1.over p2.toPost) p2.val h2 fun v H' G' dv pv hz=>hq v H' G' dv s2 ((p1.toPost.trans p2.toPost).thenV pv) hz
theorem amA {r:V->Hp->VK->Prop} {rd:DV->(DV->Prop)->Prop} (hr:UnSem K r rd) (h:up K W (dUn rd ta) σ H R):tUn r (up K W ta) σ H R:=by
  obtain ⟨G,so,sl,Q,E,rep,q,hq,hx⟩:=h
  refine ⟨G,so,sl,_,E,rep,q,fun x H1 G1 dx s1 p1 h1=>?_,hx⟩
  exact hr G1 so H1 x dx _ R p1.rep.h p1.val h1 fun v H' G' dv pv hz=>hq v H' G' dv s1 (p1.toPost.thenV pv) hz
theorem alj {r:List V->Hp->VK->Prop} {rd:List DV->(DV->Prop)->Prop} {t:TDA} (hr:CallSem K r rd) (h:up K W (dCB rd t) σ H R):tCB r (upA K W t) σ H R:=by
  obtain ⟨G,so,sl,Q,E,rep,q,hq,hx⟩:=h
  refine ⟨G,so,sl,_,E,rep,q,fun vs H1 G1 ds s1 p1 w h1=>?_,hx⟩
  exact hr G1 so H1 vs ds _ R p1.rep.h w h1 fun v H' G' dv pv hz=>hq v H' G' dv s1 (p1.thenV pv) hz
theorem aab:DA X W [] dNil:=ak1 pa_nil fun σ H R ⟨G,so,sl,Q,E,rep,q,hq,_⟩=>hq [] H G [] sl (.refl rep) .nil q
theorem aaa {es:List Expr} {tr:TDA} (ha:DE X W e ta) (hr:DA X W es tr) (hs:starEach (e::es) X.env=(false,eval e X.env)::starEach es X.env:=by rfl):DA X W (e::es) (dCons ta tr):=by
  refine ak1 (pa_cons ha hr hs) fun σ H R ⟨G,so,sl,Q,E,rep,q,hq,hx⟩=>?_
  refine ⟨G,so,sl,_,E,rep,q,fun x H1 G1 dx s1 p1 h1=>?_,hx⟩
  obtain ⟨G1',p1'⟩:=p1.pub
  refine ⟨G1',so,s1,_,E,p1'.rep,h1,fun vs H2 G2 ds s2 p2 w h2=>?_,hx.step p1'.toPost⟩
  exact hq (x::vs) H2 G2 (pubV dx::ds) s2 (p1'.toPost.trans p2) (.cons (p1'.over p2) (ahZ dx) w) h2
theorem aiH {op:Operator} {r:R2} {rd:DV->DV->(DV->Prop)->Prop} (ho:OpR X (binaryOp op) r) (hr:OpSem X.K r rd) (ha:DE X W a ta) (hb:DE X W b tb):DE X W (.BinOp a op b pos) (dOp rd ta tb):=aa6 (pe_op ho ha hb) fun _ _ _ h=>aj8 hr h
theorem de_un {op:UnaryOp} {r:V->Hp->VK->Prop} {rd:DV->(DV->Prop)->Prop} (ho:UnR X (unaryOp op) r) (hr:UnSem X.K r rd) (ha:DE X W a ta):DE X W (.UnaryOp op a pos) (dUn rd ta):=aa6 (pe_un ho ha) fun _ _ _ h=>amA hr h
theorem ae9 {op:CmpOp} {r:R2} {rd:DV->DV->(DV->Prop)->Prop} (ho:OpR X (compareOp op) r) (hr:OpSem X.K r rd) (ha:DE X W a ta) (hb:DE X W b tb) (hm:behindInMarks op b=false):DE X W (.Compare a [op] [b] pos) (dOp rd ta tb):=aa6 (pe_cmpR ho ha hb hm) fun _ _ _ h=>aj8 hr h
theorem aan {r:R2} {rd:DV->DV->(DV->Prop)->Prop} (ho:IxR X r) (hr:OpSem X.K r rd) (ha:DE X W a ta) (hb:DE X W b tb) (hs:PlainIx b):DE X W (.Subscript a b pos) (dOp rd ta tb):=aa6 (pe_ix ho ha hb hs) fun _ _ _ h=>aj8 hr h
end
def keyD:Key->D
  | .inl i=>.int i
  | .inr z=>.str z
def keyPy:Key->PyData
  | .inl i=>.int i
  | .inr z=>.str z
mutual
def D.py:D->Option PyData
  | .non=>some .none
  | .bl b=>some (.bool b)
  | .int i=>some (.int i)
  | .str x=>some (.str x)
  | .lst ds=>(D.pyAll ds).map .list
  | .tup ds=>(D.pyAll ds).map .tuple
  | .ins _ _=>none
  | .dk _=>none
  | .dt _=>none
  | .any=>none
  | .raw _=>none
  | .kt ks=>some (.tuple (ks.map keyPy))
def D.pyAll:List D->Option (List PyData)
  | []=>some []
  | d::r=>match D.py d,D.pyAll r with
    | some p,some ps=>some (p::ps)
    | _,_=>none
end
def DV.dat:DV->Option D
  | .d x=>some x
  | .own o=>some (pubO o)
  | .bor o=>some (pubO o)
  | .see o=>some (pubO o)
  | .src=>none
  | .mu _ _ _=>none
  | .gh _ _=>none
def DV.items:DV->Option (List D)
  | .d (.lst ds)=>some ds
  | .own (.lst ds)=>some ds
  | .bor (.lst ds)=>some ds
  | .see (.lst ds)=>some ds
  | _=>none
section
variable {K:PySem.W.Frag} {G H:Hp} {so:So} {v x y:V} {dv dx dy:DV}
theorem ahE {H:Hp}:∀ ks:List Key,DpAll K H (ks.map kV) (ks.map keyPy)
  | []=>.nil
  | .inl i::r=>.cons (.int i) (ahE r)
  | .inr z::r=>.cons (.str z) (ahE r)
mutual
theorem DOk.dp (e:Ex G H):∀ (d:D) (v:V) (p:PyData),DOk K G v d->d.py=some p->Dp K H v p
  | .non,_,_,h,q=>by cases h;cases q;exact .non
  | .bl b,_,_,h,q=>by cases h;cases q;exact .bl b
  | .int i,_,_,h,q=>by cases h;cases q;exact .int i
  | .str x,_,_,h,q=>by cases h;cases q;exact .str x
  | .lst ds,_,p,h,q=>by
    unfold D.py at q
    cases z:D.pyAll ds with
    | none=>rw [z] at q;cases q
    | some ps=>
      rw [z] at q;cases q
      cases h with
      | lst g a=>exact .lst (SqL.of (e _ _ g)) (DAll.dp e ds _ ps a z)
  | .tup ds,_,p,h,q=>by
    unfold D.py at q
    cases z:D.pyAll ds with
    | none=>rw [z] at q;cases q
    | some ps=>
      rw [z] at q;cases q
      cases h with
      | tup g a=>exact .tup (ex_t e g) (DAll.dp e ds _ ps a z)
  | .ins _ _,_,_,_,q=>by cases q
  | .dk _,_,_,_,q=>by cases q
  | .dt _,_,_,_,q=>by cases q
  | .any,_,_,_,q=>by cases q
  | .raw _,_,_,_,q=>by cases q
  | .kt ks,_,_,h,q=>by
    unfold D.py at q
    cases q
    cases h with
    | kt g=>exact .tup (SqT.of (e _ _ g)) (ahE ks)
theorem DAll.dp (e:Ex G H):∀ (ds:List D) (vs:List V) (ps:List PyData),DAll K G vs ds->D.pyAll ds=some ps->DpAll K H vs ps
  | [],_,_,h,q=>by cases h;cases q;exact .nil
  | d::r,_,ps,h,q=>by
    cases h with
    | cons h1 h2=>
      unfold D.pyAll at q
      cases z1:D.py d with
      | none=>rw [z1] at q;cases q
      | some p=>
        cases z2:D.pyAll r with
        | none=>rw [z1,z2] at q;cases q
        | some qs=>
          rw [z1,z2] at q;cases q
          exact .cons (DOk.dp e d _ p h1 z1) (DAll.dp e r _ qs h2 z2)
end
theorem VOk.dp {d:D} {p:PyData} (h:HRep K G so H) (w:VOk K G so H v dv) (e:dv.dat=some d) (q:d.py=some p):Dp K H v p:=by
  cases dv with
  | d z=>cases e;exact DOk.dp h.ex _ _ _ w q
  | src=>cases e
  | mu _ _ _=>cases e
  | gh _ _=>cases e
  | own o=>
    cases e
    obtain ⟨a,rfl,_,_,ok⟩:=w
    cases o with
    | lst ds=>
      obtain ⟨vs,e1,al⟩:=ok
      unfold pubO D.py at q
      cases z:D.pyAll ds with
      | none=>rw [z] at q;cases q
      | some ps=>rw [z] at q;cases q;exact .lst (SqL.of e1) (DAll.dp h.ex ds _ ps al z)
    | ins x C fs=>unfold pubO D.py at q;cases q
    | dk _=>unfold pubO D.py at q;cases q
    | dt _=>unfold pubO D.py at q;cases q
  | bor o=>
    cases e
    obtain ⟨a,rfl,_,ok⟩:=w
    cases o with
    | lst ds=>
      obtain ⟨vs,e1,al⟩:=ok
      unfold pubO D.py at q
      cases z:D.pyAll ds with
      | none=>rw [z] at q;cases q
      | some ps=>rw [z] at q;cases q;exact .lst (SqL.of e1) (DAll.dp h.ex ds _ ps al z)
    | ins x C fs=>unfold pubO D.py at q;cases q
    | dk _=>unfold pubO D.py at q;cases q
    | dt _=>unfold pubO D.py at q;cases q
  | see o=>
    cases e
    obtain ⟨a,rfl,_,ok⟩:=w
    cases o with
    | lst ds=>
      obtain ⟨vs,e1,al⟩:=ok
      unfold pubO D.py at q
      cases z:D.pyAll ds with
      | none=>rw [z] at q;cases q
      | some ps=>rw [z] at q;cases q;exact .lst (SqL.of e1) (DAll.dp h.ex ds _ ps al z)
    | ins x C fs=>unfold pubO D.py at q;cases q
    | dk _=>unfold pubO D.py at q;cases q
    | dt _=>unfold pubO D.py at q;cases q
theorem VOk.list {ds:List D} (h:HRep K G so H) (w:VOk K G so H v dv) (e:dv.items=some ds):∃ a vs,v=.ref a/\H a=some (.lst vs)/\DAll K G vs ds:=by
  unfold DV.items at e
  split at e
  · cases e
    cases w with
    | lst g a=>exact ⟨_,_,rfl,h.ex _ _ g,a⟩
  · cases e
    obtain ⟨a,rfl,_,_,vs,e1,al⟩:=w
    exact ⟨a,vs,rfl,e1,al⟩
  · cases e
    obtain ⟨a,rfl,_,vs,e1,al⟩:=w
    exact ⟨a,vs,rfl,e1,al⟩
  · cases e
    obtain ⟨a,rfl,_,vs,e1,al⟩:=w
    exact ⟨a,vs,rfl,e1,al⟩
  · cases e
theorem VOk.tup {ds:List D} (h:HRep K G so H) (w:VOk K G so H v (.d (.tup ds))):∃ a vs,v=.ref a/\SqT K H a vs/\DAll K G vs ds:=by
  cases w with
  | tup g a=>exact ⟨_,_,rfl,ex_t h.ex g,a⟩
end
abbrev szl:Nat:=16777216
theorem aci:szl=sizeLine:=by rw [sizeLine_eq]
@[irreducible] def addR:DV->DV->(DV->Prop)->Prop
  | .d (.int i),.d (.int j),Q=>Q (.d (.int (i + j)))
  | .d (.str a),.d (.str b),Q=>a.length + b.length<=szl/\Q (.d (.str (a++b)))
  | .d (.tup a),.d (.tup b),Q=>a.length + b.length<=szl/\Q (.d (.tup (a++b)))
  | x,y,Q=>match x.items,y.items with
    | some a,some b=>a.length + b.length<=szl/\Q (.own (.lst (a++b)))
    | _,_=>False
@[irreducible] def intR (C:Int->Int->Prop) (f:Int->Int->D):DV->DV->(DV->Prop)->Prop
  | .d (.int i),.d (.int j),Q=>C i j/\Q (.d (f i j))
  | _,_,_=>False
@[irreducible] def ajH (f:Int->Int->D):DV->DV->(DV->Prop)->Prop
  | .d (.int i),.d (.int j),Q=>Q (.d (f i j))
  | _,_,_=>False
@[irreducible] def negR:DV->(DV->Prop)->Prop
  | .d (.int i),Q=>Q (.d (.int (-i)))
  | _,_=>False
section
variable {K:PySem.W.Frag} {X:Cx} {W:WX} {a b:Expr} {ta tb:TD} {pos:Pos}
theorem af2 {C:Int->Int->Prop} {f:Int->Int->D} {g:Int->Int->V} (hg:∀ G i j,DOk K G (g i j) (f i j)):OpSem K (rI C g) (intR C f):=by
  intro G so H x y dx dy Q R h wx wy q k
  unfold intR at q
  split at q
  · cases wx;cases wy;exact ⟨_,_,rfl,rfl,q.1,k _ H G _ (.dat h (hg G _ _)) q.2⟩
  · exact q.elim
theorem aaM {f:Int->Int->D} {g:Int->Int->V} (hg:∀ G i j,DOk K G (g i j) (f i j)):OpSem K (rI0 g) (ajH f):=by
  intro G so H x y dx dy Q R h wx wy q k
  unfold ajH at q
  split at q
  · cases wx;cases wy;exact ⟨_,_,rfl,rfl,k _ H G _ (.dat h (hg G _ _)) q⟩
  · exact q.elim
def amQ:R2:=fun x y H Q=>∃ i j,x=.str i/\y=.str j/\i.length + j.length<=sizeLine/\Q (.str (i++j)) H
def rAddAll (K:PySem.W.Frag):R2:=fun x y H Q=>(rI0 fun i j=>.int (i + j)) x y H Q\/(amQ x y H Q\/(rCatA K x y H Q\/rCat x y H Q))
theorem ajl:OpR X (binaryOp .Add) (rAddAll X.K):=OpR.or op_add (OpR.or op_add_str (OpR.or op_catA op_cat))
theorem alv:OpSem K (rAddAll K) addR:=by
  intro G so H x y dx dy Q R h wx wy q k
  unfold addR at q
  split at q
  · cases wx;cases wy;exact .inl ⟨_,_,rfl,rfl,k _ H G _ (.dat h (.int _)) q⟩
  · cases wx;cases wy;exact .inr (.inl ⟨_,_,rfl,rfl,by rw [<- aci];exact q.1,k _ H G _ (.dat h (.str _)) q.2⟩)
  · obtain ⟨a,vs,rfl,g1,a1⟩:=VOk.tup h wx
    obtain ⟨b,ws,rfl,g2,a2⟩:=VOk.tup h wy
    refine .inr (.inr (.inl ⟨a,b,vs,ws,rfl,rfl,g1,g2,?_,fun z=>?_,fun _ z=>?_,fun _ _ p n=>?_⟩))
    · rw [a1.length,a2.length,<- aci];exact q.1
    · subst z;cases a1;exact k _ H G _ (.dat h (by have w:DOk K G _ _:=wy;simpa using w)) q.2
    · subst z;cases a2;exact k _ H G _ (.dat h (by have w:DOk K G _ _:=wx;simpa using w)) q.2
    · exact k _ _ _ _ (.tuple h n (a1.append a2)) q.2
  · split at q
    · rename_i e1 e2
      obtain ⟨a,vs,rfl,g1,a1⟩:=VOk.list h wx e1
      obtain ⟨b,ws,rfl,g2,a2⟩:=VOk.list h wy e2
      refine .inr (.inr (.inr ⟨a,b,vs,ws,rfl,rfl,g1,g2,?_,fun p n=>?_⟩))
      · rw [a1.length,a2.length,<- aci];exact q.1
      · exact k _ _ _ _ (.list h n (a1.append a2)) q.2
    · exact q.elim
theorem aeh (ha:DE X W a ta) (hb:DE X W b tb):DE X W (.BinOp a .Add b pos) (dOp addR ta tb):=aiH ajl alv ha hb
theorem anl (ha:DE X W a ta) (hb:DE X W b tb):DE X W (.BinOp a .Sub b pos) (dOp (ajH fun i j=>.int (i - j)) ta tb):=aiH op_sub (aaM fun _ _ _=>.int _) ha hb
theorem ano (ha:DE X W a ta) (hb:DE X W b tb):DE X W (.BinOp a .Mod b pos) (dOp (intR (fun _ j=>0 < j) fun i j=>.int (i % j)) ta tb):=aiH op_mod (af2 fun _ _ _=>.int _) ha hb
theorem agv (ha:DE X W a ta) (hb:DE X W b tb):DE X W (.BinOp a .FloorDiv b pos) (dOp (intR CDivW fun i j=>.int (i / j)) ta tb):=aiH op_fdivW (af2 fun _ _ _=>.int _) ha hb
theorem anm (ha:DE X W a ta) (hb:DE X W b tb):DE X W (.BinOp a .Pow b pos) (dOp (intR CPow fun i j=>.int (i ^ j.toNat)) ta tb):=aiH op_pow (af2 fun _ _ _=>.int _) ha hb
theorem alq:UnSem K (rU fun i=>.int (-i)) negR:=by
  intro G so H x dx Q R h wx q k
  unfold negR at q
  split at q
  · cases wx;exact ⟨_,rfl,k _ H G _ (.dat h (.int _)) q⟩
  · exact q.elim
theorem aih (ha:DE X W a ta):DE X W (.UnaryOp .USub a pos) (dUn negR ta):=de_un un_neg alq ha
@[irreducible] def mulR:DV->DV->(DV->Prop)->Prop
  | .d (.int i),.d (.int j),Q=>CMulW i j/\Q (.d (.int (i * j)))
  | x,.d (.int k),Q=>match x.items with
    | some a=>-(2 ^ 63)<=k/\k < 2 ^ 63/\a.length * k.toNat<=szl/\Q (.own (.lst (List.replicate k.toNat a).flatten))
    | _=>False
  | _,_,_=>False
@[irreducible] def eqDeep (neg:Bool):DV->DV->(DV->Prop)->Prop:=fun x y Q=>match x.dat,y.dat with
  | some a,some b=>match a.py,b.py with
    | some p,some q=>SeqAt.shaped p=true/\SeqAt.shaped q=true/\Q (.d (.bl (if neg then !PyData.eqv p q else PyData.eqv p q)))
    | _,_=>False
  | _,_=>False
@[irreducible] def eqR (neg:Bool):DV->DV->(DV->Prop)->Prop
  | .d (.int i),.d (.int j),Q=>Q (.d (.bl (if neg then !decide (i=j) else decide (i=j))))
  | .d (.str i),.d (.str j),Q=>Q (.d (.bl (if neg then !decide (i=j) else decide (i=j))))
  | .d (.bl i),.d (.bl j),Q=>Q (.d (.bl (if neg then !decide (i=j) else decide (i=j))))
  | x,y,Q=>eqDeep neg x y Q
def rEqAll (K:PySem.W.Frag):R2:=fun x y H Q=>rEq x y H Q\/rEqD K x y H Q
def rNeAll (K:PySem.W.Frag):R2:=fun x y H Q=>rNe x y H Q\/rNeD K x y H Q
theorem ab7 (hu:X.A.units + 64 < cLine):OpR X (compareOp .Eq) (rEqAll X.K):=OpR.or op_eq (op_eqD hu)
theorem adL (hu:X.A.units + 64 < cLine):OpR X (compareOp .NotEq) (rNeAll X.K):=OpR.or op_ne (op_neD hu)
theorem decI {i j:Int}:decide (V.int i=V.int j)=decide (i=j):=by
  by_cases h:i=j
  · subst h;simp
  · simp [h]
theorem decS {i j:Str}:decide (V.str i=V.str j)=decide (i=j):=by
  by_cases h:i=j
  · subst h;simp
  · simp [h]
theorem decB {i j:Bool}:decide (V.bl i=V.bl j)=decide (i=j):=by
  by_cases h:i=j
  · subst h;simp
  · simp [h]
theorem adu:OpSem K (rEqAll K) (eqR false):=by
  intro G so H x y dx dy Q R h wx wy q k
  unfold eqR at q
  split at q
  · cases wx;cases wy
    exact .inl ⟨rfl,by rw [decI];exact k _ H G _ (.dat h (.bl _)) q⟩
  · cases wx;cases wy
    exact .inl ⟨rfl,by rw [decS];exact k _ H G _ (.dat h (.bl _)) q⟩
  · cases wx;cases wy
    exact .inl ⟨rfl,by rw [decB];exact k _ H G _ (.dat h (.bl _)) q⟩
  · unfold eqDeep at q
    split at q
    · rename_i d e e1 e2
      split at q
      · rename_i p p' e3 e4
        exact .inr ⟨p,p',wx.dp h e1 e3,wy.dp h e2 e4,q.1,q.2.1,k _ H G _ (.dat h (.bl _)) q.2.2⟩
      · exact q.elim
    · exact q.elim
theorem agJ:OpSem K (rNeAll K) (eqR true):=by
  intro G so H x y dx dy Q R h wx wy q k
  unfold eqR at q
  split at q
  · cases wx;cases wy
    exact .inl ⟨rfl,by rw [decI];exact k _ H G _ (.dat h (.bl _)) q⟩
  · cases wx;cases wy
    exact .inl ⟨rfl,by rw [decS];exact k _ H G _ (.dat h (.bl _)) q⟩
  · cases wx;cases wy
    exact .inl ⟨rfl,by rw [decB];exact k _ H G _ (.dat h (.bl _)) q⟩
  · unfold eqDeep at q
    split at q
    · rename_i d e e1 e2
      split at q
      · rename_i p p' e3 e4
        exact .inr ⟨p,p',wx.dp h e1 e3,wy.dp h e2 e4,q.1,q.2.1,k _ H G _ (.dat h (.bl _)) q.2.2⟩
      · exact q.elim
    · exact q.elim
end
@[irreducible] def Br (b:Bool) (A B:Prop):Prop:=(b=true->A)/\(b=false->B)
theorem brt {A B:Prop} (h:Br true A B):A:=by
  unfold Br at h;exact h.1 rfl
theorem brf {A B:Prop} (h:Br false A B):B:=by
  unfold Br at h;exact h.2 rfl
theorem br {b:Bool} {A B:Prop} (h1:b=true->A) (h2:b=false->B):Br b A B:=by
  unfold Br;exact ⟨h1,h2⟩
theorem brT {A B:Prop} (h:A):Br true A B:=br (fun _=>h) fun z=>(nomatch z)
theorem brF {A B:Prop} (h:B):Br false A B:=br (fun z=>(nomatch z)) fun _=>h
structure PostS (K:PySem.W.Frag) (G:Hp) (so:So) (σ:L2.St) (H:Hp) (sl:DSt) (σ':L2.St) (H' G':Hp) (sl':DSt):Prop where
  ex:Ex G G'
  rep:Rep K G' so σ' H' sl'
  keep:∀ a o,H a=some o->so.Nt a->¬ Own sl σ a->H' a=some o
  frm:∀ a,H a≠none->G a=none->so.Nt a->¬ Own sl σ a->G' a=none
  sub:∀ a,H a≠none->so.Nt a->¬ Own sl σ a->¬ Own sl' σ' a
  ln:σ'.length=σ.length
structure PostR (K:PySem.W.Frag) (G:Hp) (so:So) (σ:L2.St) (H:Hp) (sl:DSt) (v:V) (H' G':Hp) (dv:DV) (sl':DSt):Prop where
  ex:Ex G G'
  hrep:HRep K G' so H'
  keep:∀ a o,H a=some o->so.Nt a->¬ Own sl σ a->H' a=some o
  frm:∀ a,H a≠none->G a=none->so.Nt a->¬ Own sl σ a->G' a=none
  val:VOk K G' so H' v dv
  new:∀ a o,dv=.own o->v=.ref a->H a=none\/Own sl σ a
  mus:∀ (i:Nat) (x C:Addr) (fs:List (Str × D)),sl'[i]?=some (some (.mu x C fs))->∃ dx vs,H' x=some (.ins C dx vs)/\FAll K G' vs fs
def XOkS (K:PySem.W.Frag) (W:WX) (G:Hp) (so:So) (σ:L2.St) (H:Hp) (sl:DSt) (E:XP):Prop:=
  ∀ cls d σ' H' G' fs sl',PostS K G so σ H sl σ' H' G' sl'->XdOk K G' H' d fs->E cls fs sl'->W cls d σ' H'
section
variable {K:PySem.W.Frag} {W:WX} {G G1 G2:Hp} {so:So} {σ σ1 σ2:L2.St} {H H1 H2:Hp} {sl s1 s2:DSt} {v x y:V} {dv dx dy:DV} {E:XP}
theorem Rep.mus (r:Rep K G so σ H sl) (i:Nat) (x C:Addr) (fs:List (Str × D)) (e:sl[i]?=some (some (.mu x C fs))):∃ dx vs,H x=some (.ins C dx vs)/\FAll K G vs fs:=by
  obtain ⟨v,_,w⟩:=r.slots i _ e
  exact w.2.2
theorem Post.s (p:Post K G so σ H sl H1 G1 s1):PostS K G so σ H sl σ H1 G1 s1:=⟨p.ex,p.rep,fun a o e s _=>p.keep a o e s,p.frm,fun a _ _ w z=>w (p.sub a z),rfl⟩
theorem PostS.refl (r:Rep K G so σ H sl):PostS K G so σ H sl σ H G sl:=(Post.refl r).s
theorem PostS.trans (a:PostS K G so σ H sl σ1 H1 G1 s1) (b:PostS K G1 so σ1 H1 s1 σ2 H2 G2 s2):PostS K G so σ H sl σ2 H2 G2 s2:=
  ⟨a.ex.trans b.ex,b.rep,fun c o e s w=>b.keep c o (a.keep c o e s w) s (a.sub c (by rw [e];simp) s w),fun c n g s w=>by
    obtain ⟨o,e⟩:=Option.ne_none_iff_exists'.mp n
    exact b.frm c (by rw [a.keep c o e s w];simp) (a.frm c n g s w) s (a.sub c n s w),fun c n s w=>by
    obtain ⟨o,e⟩:=Option.ne_none_iff_exists'.mp n
    exact b.sub c (by rw [a.keep c o e s w];simp) s (a.sub c n s w),b.ln.trans a.ln⟩
theorem PostS.back (a:PostS K G so σ H sl σ1 H1 G1 s1) {c:Addr} (n:H1 c=none\/Own s1 σ1 c):H c=none\/Own sl σ c:=by
  by_cases w:Own sl σ c
  · exact .inr w
  · refine .inl ?_
    cases z:H c with
    | none=>rfl
    | some u=>
      by_cases s:so.Vol c
      · rcases n with n | n
        · exact absurd s (a.rep.h.there n)
        · exact absurd s (a.rep.nown n).2.2
      · rcases n with n | n
        · rw [a.keep c u z s w] at n;cases n
        · exact absurd n (a.sub c (by rw [z];simp) s w)
theorem PostS.thenE (a:PostS K G so σ H sl σ1 H1 G1 s1) (b:PostE K G1 so σ1 H1 s1 v H2 G2 dv s2):PostR K G so σ H sl v H2 G2 dv s2:=by
  have t:=a.trans b.toPost.s
  exact ⟨t.ex,t.rep.h,t.keep,t.frm,b.val,fun c o e q=>a.back (b.new c o e q),b.rep.mus⟩
theorem PostS.thenR (a:PostS K G so σ H sl σ1 H1 G1 s1) (b:PostR K G1 so σ1 H1 s1 v H2 G2 dv s2):PostR K G so σ H sl v H2 G2 dv s2:=
  ⟨a.ex.trans b.ex,b.hrep,fun c o e s w=>b.keep c o (a.keep c o e s w) s (a.sub c (by rw [e];simp) s w),fun c n g s w=>by
    obtain ⟨o,e⟩:=Option.ne_none_iff_exists'.mp n
    exact b.frm c (by rw [a.keep c o e s w];simp) (a.frm c n g s w) s (a.sub c n s w),b.val,fun c o e q=>a.back (b.new c o e q),b.mus⟩
theorem XOkS.ex (h:XOkS K W G so σ H sl E):XOk K W G so σ H sl E:=fun cls d H' G' fs sl' q a b=>h cls d σ H' G' fs sl' q.s a b
theorem XOkS.step (h:XOkS K W G so σ H sl E) (p:PostS K G so σ H sl σ1 H1 G1 s1):XOkS K W G1 so σ1 H1 s1 E:=fun cls d σ' H' G' fs sl' q a b=>h cls d σ' H' G' fs sl' (p.trans q) a b
end
structure EOk (K:PySem.W.Frag) (W:WX) (G:Hp) (so:So) (σ:L2.St) (H:Hp) (sl:DSt) (E:EndsD) (D:Ends):Prop where
  nx:∀ σ' H' G' sl',PostS K G so σ H sl σ' H' G' sl'->E.nx sl'->D.nx σ' H'
  bk:∀ σ' H' G' sl',PostS K G so σ H sl σ' H' G' sl'->E.bk sl'->D.bk σ' H'
  ct:∀ σ' H' G' sl',PostS K G so σ H sl σ' H' G' sl'->E.ct sl'->D.ct σ' H'
  rt:∀ v H' G' dv sl',PostR K G so σ H sl v H' G' dv sl'->E.rt dv sl'->D.rt v H'
  xc:XOkS K W G so σ H sl E.xc
theorem EOk.step {K:PySem.W.Frag} {W:WX} {G G1:Hp} {so:So} {σ σ1:L2.St} {H H1:Hp} {sl s1:DSt} {E:EndsD} {D:Ends} (h:EOk K W G so σ H sl E D) (p:PostS K G so σ H sl σ1 H1 G1 s1):EOk K W G1 so σ1 H1 s1 E D:=
  ⟨fun a b c d q=>h.nx a b c d (p.trans q),fun a b c d q=>h.bk a b c d (p.trans q),fun a b c d q=>h.ct a b c d (p.trans q),fun a b c d z q=>h.rt a b c d z (p.thenR q),h.xc.step p⟩
def upS (K:PySem.W.Frag) (W:WX) (t:TDS):TS:=fun D σ H=>∃ G so sl E,Rep K G so σ H sl/\t E sl/\EOk K W G so σ H sl E D
def DS (X:Cx) (W:WX) (st:Stmt) (t:TDS):Prop:=PS X st (upS X.K W t)
def DSs (X:Cx) (W:WX) (sts:List Stmt) (t:TDS):Prop:=PSs X sts (upS X.K W t)
def dNext:TDS:=fun E sl=>E.nx sl
def dSeq (t u:TDS):TDS:=fun E sl=>t { E with nx:=u E } sl
def dSet (te:TD) (i:Nat):TDS:=fun E sl=>te sl (fun x s1=>match x with
  | .see _=>False
  | y=>E.nx (s1.set i (some y))) E.xc
def dRet (te:TD):TDS:=fun E sl=>te sl (fun x s1=>E.rt x s1) E.xc
def dIf (c:TDT) (t u:TDS):TDS:=fun E sl=>c sl (fun b s1=>Br b (t E s1) (u E s1)) E.xc
section
variable {X:Cx} {W:WX} {st:Stmt} {rest body orelse:List Stmt} {t u:TDS} {e c a b:Expr} {te ta tb:TD} {tc td:TDT} {pos:Pos}
theorem abH:DSs X W [] dNext:=ajd pss_nil fun D σ H ⟨G,so,sl,E,rep,q,ok⟩=>ok.nx σ H G sl (.refl rep) q
theorem aah (h1:DS X W st t) (h2:DSs X W rest u):DSs X W (st::rest) (dSeq t u):=ajd (pss_cons h1 h2) fun D σ H ⟨G,so,sl,E,rep,q,ok⟩=>
  ⟨G,so,sl,_,rep,q,⟨fun σ1 H1 G1 s1 p q1=>⟨G1,so,s1,E,p.rep,q1,ok.step p⟩,ok.bk,ok.ct,ok.rt,ok.xc⟩⟩
theorem aai (h1:DS X W st t):DSs X W [st] t:=pss_one h1
theorem aat (h:DE X W e te):DS X W (.Return (some e) pos) (dRet te):=ac8 (ps_ret h) fun D σ H ⟨G,so,sl,E,rep,q,ok⟩=>
  ⟨G,so,sl,_,E.xc,rep,q,fun v H1 G1 dv s1 p q1=>ok.rt v H1 G1 dv s1 ((PostS.refl rep).thenE p) q1,ok.xc.ex⟩
theorem acG (hc:DT X W c tc) (h1:DSs X W body t) (h2:DSs X W orelse u):DS X W (.If c body orelse pos) (dIf tc t u):=ac8 (ps_if hc h1 h2) fun D σ H ⟨G,so,sl,E,rep,q,ok⟩=>by
  refine ⟨G,so,sl,_,E.xc,rep,q,fun k H1 G1 s1 p q1=>?_,ok.xc.ex⟩
  cases k with
  | true=>rw [if_pos rfl];exact ⟨G1,so,s1,E,p.rep,(brt q1),ok.step p.s⟩
  | false=>rw [if_neg Bool.false_ne_true];exact ⟨G1,so,s1,E,p.rep,(brf q1),ok.step p.s⟩
end
section
variable {K:PySem.W.Frag} {W:WX} {G G1 G2:Hp} {so:So} {σ σ1 σ2:L2.St} {H H1 H2:Hp} {sl s1 s2:DSt} {v x y:V} {dv dx dy:DV} {E:XP}
theorem get_set {α:Type} {l:List α} {i j:Nat} {x y:α} (h:(l.set i x)[j]?=some y):(j=i/\y=x)\/(j≠i/\l[j]?=some y):=by
  by_cases ji:j=i
  · subst ji
    rw [List.getElem?_set] at h
    split at h
    · split at h
      · cases h;exact .inl ⟨rfl,rfl⟩
      · cases h
    · rename_i k;exact absurd rfl k
  · rw [List.getElem?_set_ne (Ne.symm ji)] at h
    exact .inr ⟨ji,h⟩
theorem aka {i:Nat} (hi:i < σ.length) (ns:∀ o,dv≠.see o) (rep:Rep K G so σ H sl) (w:VOk K G so H v dv) (n:∀ a o,dv=.own o\/dv=.bor o->v=.ref a->¬ Own sl σ a) (nb:∀ (a:Addr) (o:OO) (i':Nat) (o':OO),dv=.own o->v=.ref a->sl[i']?=some (some (.bor o'))->σ[i']?=some (some (.ref a))->False) (new:∀ a o,dv=.own o->v=.ref a->H1 a=none\/Own s1 σ1 a)
    (sub:∀ a,H1 a≠none->so.Nt a->¬ Own s1 σ1 a->¬ Own sl σ a) :
    Rep K G so (σ.set i (some v)) H (sl.set i (some dv))/\∀ a,H1 a≠none->so.Nt a->¬ Own s1 σ1 a->¬ Own (sl.set i (some dv)) (σ.set i (some v)) a:=by
  have hl:i < sl.length:=by rw [rep.len];exact hi
  have self:(σ.set i (some v))[i]?=some (some v):=List.getElem?_set_self hi
  have other:∀ {j:Nat},j≠i->(σ.set i (some v))[j]?=σ[j]?:=fun ne=>List.getElem?_set_ne (Ne.symm ne)
  refine ⟨⟨rep.h,by rw [List.length_set,List.length_set];exact rep.len,fun j d q=>?_,fun j k o o' a q1 q2 q3 q4=>?_,fun j o a q1 q2 z=>?_,fun j o z=>?_⟩,fun a n1 sa w1 z=>?_⟩
  · rcases get_set q with ⟨rfl,e⟩ | ⟨ne,e⟩
    · cases e;exact ⟨v,self,VOk.slot w⟩
    · obtain ⟨w',e1,e2⟩:=rep.slots j d e
      exact ⟨w',by rw [other ne];exact e1,e2⟩
  · rcases get_set q1 with ⟨rfl,e1⟩ | ⟨ne1,e1⟩
    · cases e1
      rw [self] at q3;cases q3
      rcases get_set q2 with ⟨rfl,e2⟩ | ⟨ne2,e2⟩
      · rfl
      · rw [other ne2] at q4
        exact absurd ⟨k,o',e2,q4⟩ (n a o (.inl rfl) rfl)
    · rw [other ne1] at q3
      rcases get_set q2 with ⟨rfl,e2⟩ | ⟨ne2,e2⟩
      · cases e2
        rw [self] at q4;cases q4
        exact absurd ⟨j,o,e1,q3⟩ (n a o' (.inl rfl) rfl)
      · rw [other ne2] at q4
        exact rep.sep j k o o' a e1 e2 q3 q4
  · obtain ⟨m,o',e1,e2⟩:=z
    rcases get_set q1 with ⟨rfl,f1⟩ | ⟨ne1,f1⟩
    · cases f1
      rw [self] at q2;cases q2
      rcases get_set e1 with ⟨rfl,f2⟩ | ⟨ne2,f2⟩
      · cases f2
      · rw [other ne2] at e2
        exact n a o (.inr rfl) rfl ⟨m,o',f2,e2⟩
    · rw [other ne1] at q2
      rcases get_set e1 with ⟨rfl,f2⟩ | ⟨ne2,f2⟩
      · cases f2
        rw [self] at e2;cases e2
        exact nb a o' j o rfl rfl f1 q2
      · rw [other ne2] at e2
        exact rep.bor j o a f1 q2 ⟨m,o',f2,e2⟩
  · rcases get_set z with ⟨rfl,e⟩ | ⟨ne,e⟩
    · cases e;exact ns o rfl
    · exact rep.nse j o e
  · obtain ⟨j,o,e1,e2⟩:=z
    rcases get_set e1 with ⟨rfl,e⟩ | ⟨ne,e⟩
    · cases e
      rw [self] at e2;cases e2
      rcases new a o rfl rfl with k | k
      · exact n1 k
      · exact w1 k
    · rw [other ne] at e2
      exact sub a n1 sa w1 ⟨j,o,e,e2⟩
theorem PostE.set {i:Nat} (hi:i < σ.length) (ns:∀ o,dv≠.see o) (p:PostE K G so σ H sl v H1 G1 dv s1):PostS K G so σ H sl (σ.set i (some v)) H1 G1 (s1.set i (some dv)):=by
  have bf:∀ (a:Addr) (o:OO) (i':Nat) (o':OO),dv=.own o->v=.ref a->s1[i']?=some (some (.bor o'))->σ[i']?=some (some (.ref a))->False:=fun a o i' o' e q e1 e2=>p.nbs a o i' o' e q e1 e2
  obtain ⟨r,s⟩:=aka (H1:=H) (s1:=sl) (σ1:=σ) hi ns p.rep p.val (fun a o e q=>p.sepv a o e q) bf (fun a o e q=>p.new a o e q) fun a _ _ w z=>w (p.sub a z)
  exact ⟨p.ex,r,fun a o e sa _=>p.keep a o e sa,p.frm,s,List.length_set⟩
end
section
variable {X:Cx} {W:WX} {e:Expr} {te:TD} {pos pos':Pos} {i:Nat} {x:Str}
theorem akP {K:PySem.W.Frag} {D:Ends} {σ:L2.St} {H:Hp} (hi:∀ {G so sl},Rep K G so σ H sl->i < σ.length) (h:upS K W (dSet te i) D σ H):tAsg (up K W te) (gName i) D σ H:=by
  obtain ⟨G,so,sl,E,rep,q,ok⟩:=h
  refine ⟨G,so,sl,_,E.xc,rep,q,fun v H1 G1 dv s1 p q1=>?_,ok.xc.ex⟩
  split at q1
  · exact q1.elim
  · rename_i ns
    exact ok.nx _ H1 G1 _ (p.set (hi rep) fun o z=>ns o z) q1
theorem aje {st:Stmt} {t t':TS} (h:PS X st t) (f:∀ D σ H,σ.length=X.N.length->t' D σ H->t D σ H):PS X st t':=⟨fun pins s σ H Q I q=>h.run pins s σ H Q I (f _ _ _ I.len q)⟩
theorem abG (hN:X.N.Nodup) (hi:X.N[i]?=some x) (hx:Loc X.env.scope x) (he:DE X W e te) (hs:swapsWith e (some (.Name x pos')) pos.line X.env=pure false:=by rfl) (hf:X.fn x=true\/X.env.scope.names.lookup x=some .local:=by first | exact .inl rfl | exact .inr rfl | assumption) :
    DS X W (.Assign [.Name x pos'] e pos) (dSet te i):=aje (ps_set hN hi hx he hs hf) fun D σ H hl h=>akP (fun _=>by rw [hl];exact (List.getElem?_eq_some_iff.mp hi).1) h
end
@[irreducible] def truR:DV->(Bool->Prop)->Prop
  | .d (.bl b),Q=>Q b
  | .d .non,Q=>Q false
  | .d (.int i),Q=>Q (i != 0)
  | .d (.str x),Q=>x.length<=szl/\Q ((x.length:Int) != 0)
  | .d (.tup ds),Q=>Q (!ds.isEmpty)
  | v,Q=>match v.items with
    | some ds=>Q (!ds.isEmpty)
    | none=>False
def dTru (te:TD):TDT:=fun sl Q E=>te sl (fun x s1=>truR x fun b=>Q b s1) E
def dTest (te:TD):TDT:=fun sl Q E=>te sl (fun x s1=>match x with
  | .d (.bl b)=>Q b s1
  | _=>False) E
def dAnd (t u:TDT):TDT:=fun sl Q E=>t sl (fun b s1=>Br b (u s1 Q E) (Q false s1)) E
def dOr (t u:TDT):TDT:=fun sl Q E=>t sl (fun b s1=>Br b (Q true s1) (u s1 Q E)) E
def dNot (t:TDT):TDT:=fun sl Q E=>t sl (fun b s1=>Q (!b) s1) E
def dIfE (t:TDT) (ta tb:TD):TD:=fun sl Q E=>t sl (fun b s1=>Br b (ta s1 Q E) (tb s1 Q E)) E
def dAndV (ta tb:TD):TD:=fun sl Q E=>ta sl (fun x s1=>match x with
  | .d (.bl b)=>Br b (tb s1 Q E) (Q (.d (.bl false)) s1)
  | _=>False) E
def dOrV (ta tb:TD):TD:=fun sl Q E=>ta sl (fun x s1=>match x with
  | .d (.bl b)=>Br b (Q (.d (.bl true)) s1) (tb s1 Q E)
  | _=>False) E
def dNotV (ta:TD):TD:=fun sl Q E=>ta sl (fun x s1=>truR x fun b=>Q (.d (.bl (!b))) s1) E
theorem ae4 {K:PySem.W.Frag} {G:Hp} {vs:List V} {ds:List D} (a:DAll K G vs ds):vs.isEmpty=ds.isEmpty:=by
  cases a<;>rfl
theorem akR {K:PySem.W.Frag} {G:Hp} {so:So} {H:Hp} {v:V} {dv:DV} {Q:Bool->Prop} (h:HRep K G so H) (w:VOk K G so H v dv) (q:truR dv Q):∃ k,TruV K v H k/\Q k:=by
  unfold truR at q
  split at q
  · cases w;exact ⟨_,rfl,q⟩
  · cases w;exact ⟨_,rfl,q⟩
  · cases w;exact ⟨_,rfl,q⟩
  · cases w;exact ⟨_,⟨by rw [<- aci];exact q.1,rfl⟩,q.2⟩
  · obtain ⟨a,vs,rfl,g1,a1⟩:=VOk.tup h w
    exact ⟨_,.inr (.inl ⟨vs,g1,rfl⟩),by rw [ae4 a1];exact q⟩
  · split at q
    · rename_i e
      obtain ⟨a,vs,rfl,g1,a1⟩:=VOk.list h w e
      exact ⟨_,.inl ⟨vs,SqL.of g1,rfl⟩,by rw [ae4 a1];exact q⟩
    · exact q.elim
section
variable {X:Cx} {W:WX} {e c a b:Expr} {rest:List Expr} {te ta tb tc:TD} {t u:TDT} {pos:Pos} {K:PySem.W.Frag} {σ:L2.St} {H:Hp}
theorem ace (h:DE X W e te) (he:∀ whole,isTrue e X.env whole=(do let v <- whole;standAt e.pos;holding [v] (truthy v)):=by intro _;rfl):DT X W e (dTru te):=
  afF (pt_truth h he) fun σ H R ⟨G,so,sl,Q,E,rep,q,hq,hx⟩=>⟨G,so,sl,_,E,rep,q,fun v H1 G1 dv s1 p q1=>by
    obtain ⟨k,tv,qk⟩:=akR p.rep.h p.val q1
    exact ⟨k,tv,hq k H1 G1 s1 p.toPost qk⟩,hx⟩
theorem alh {te:TD} {R:Bool->Hp->Prop} (h:upT K W (dTest te) σ H R):tTest (up K W te) σ H R:=by
  obtain ⟨G,so,sl,Q,E,rep,q,hq,hx⟩:=h
  refine ⟨G,so,sl,_,E,rep,q,fun v H1 G1 dv s1 p q1=>?_,hx⟩
  split at q1
  · have w:=p.val
    cases w
    exact ⟨_,rfl,hq _ H1 G1 s1 p.toPost q1⟩
  · exact q1.elim
theorem ahN {tE:TE} {te:TD} {R:Bool->Hp->Prop} (f:∀ R,up K W te σ H R->tE σ H R) (h:upT K W (dTest te) σ H R):tTest tE σ H R:=f _ (alh h)
theorem abl {op:CmpOp} {r:R2} {rd:DV->DV->(DV->Prop)->Prop} (ho:OpR X (compareOp op) r) (hr:OpSem X.K r rd) (ha:DE X W a ta) (hb:DE X W b tb) (hm:behindInMarks op b=false):DT X W (.Compare a [op] [b] pos) (dTest (dOp rd ta tb)):=
  afF (pt_cmpR ho ha hb hm) fun _ _ _ h=>ahN (fun _ h=>aj8 hr h) h
def dChain (rd rd':DV->DV->(DV->Prop)->Prop) (ta tb tc:TD):TD:=fun sl Q E=>ta sl (fun x s1=>tb s1 (fun y s2=>rd x y fun z=>match z with
  | .d (.bl b)=>Br b (tc s2 (fun w s3=>rd' y w fun z'=>Q z' s3) E) (Q (.d (.bl false)) s2)
  | _=>False) E) E
theorem PostV.nop {G G1 H1:Hp} {so:So} {v:V} {dv:DV} {sl:DSt} (p:PostV K G so H v H1 G1 dv) (rep:Rep K G so σ H sl):Post K G so σ H sl H1 G1 sl:=(p.slots rep).toPost
theorem ahO {r r':R2} {rd rd':DV->DV->(DV->Prop)->Prop} {R:VK} (hr:OpSem K r rd) (hr':OpSem K r' rd') (h:up K W (dChain rd rd' ta tb tc) σ H R):tChain r r' (up K W ta) (up K W tb) (up K W tc) σ H R:=by
  obtain ⟨G,so,sl,Q,E,rep,q,hq,hx⟩:=h
  refine ⟨G,so,sl,_,E,rep,q,fun x H1 G1 dx s1 p1 h1=>?_,hx⟩
  refine ⟨G1,so,s1,_,E,p1.rep,h1,fun y H2 G2 dy s2 p2 h2=>?_,hx.step p1.toPost⟩
  have p12:=p1.toPost.trans p2.toPost
  refine hr G2 so H2 x y dx dy _ _ p2.rep.h (p1.over p2.toPost) p2.val h2 fun v H3 G3 dv pv hz=>?_
  split at hz
  · have w:=pv.val
    cases w
    rename_i b
    have p3:=pv.nop p2.rep
    refine ⟨_,rfl,?_⟩
    cases b with
    | true=>
      rw [if_pos rfl]
      refine ⟨G3,so,s2,_,E,p3.rep,(brt hz),fun w H4 G4 dw s4 p4 h4=>?_,(hx.step p12).step p3⟩
      exact hr' G4 so H4 y w dy dw _ R p4.rep.h (p2.over (p3.trans p4.toPost)) p4.val h4 fun v' H' G' dv' pv' hz'=>hq v' H' G' dv' s4 ((p12.trans (p3.trans p4.toPost)).thenV pv') hz'
    | false=>
      rw [if_neg Bool.false_ne_true]
      exact hq _ H3 G3 _ s2 (p12.thenV pv) ((brf hz))
  · exact hz.elim
theorem akI {op op':CmpOp} {r r':R2} {rd rd':DV->DV->(DV->Prop)->Prop} (ho:OpR X (compareOp op) r) (hr:OpSem X.K r rd) (ho':OpR X (compareOp op') r') (hr':OpSem X.K r' rd') (ha:DE X W a ta) (hb:DE X W b tb) (hc:DE X W c tc)
    (hm:lastMarks [op,op'] [b,c]=false:=by with_unfolding_all rfl):DE X W (.Compare a [op,op'] [b,c] pos) (dChain rd rd' ta tb tc):=aa6 (pe_chain ho ho' ha hb hc hm) fun _ _ _ h=>ahO hr hr' h
theorem aie {op op':CmpOp} {r r':R2} {rd rd':DV->DV->(DV->Prop)->Prop} (ho:OpR X (compareOp op) r) (hr:OpSem X.K r rd) (ho':OpR X (compareOp op') r') (hr':OpSem X.K r' rd') (ha:DE X W a ta) (hb:DE X W b tb) (hc:DE X W c tc)
    (hm:lastMarks [op,op'] [b,c]=false:=by with_unfolding_all rfl):DT X W (.Compare a [op,op'] [b,c] pos) (dTest (dChain rd rd' ta tb tc)):=afF (pt_chain ho ho' ha hb hc hm) fun _ _ _ h=>ahN (fun _ h=>ahO hr hr' h) h
def DW (X:Cx) (W:WX) (e:Expr) (t:TDT):Prop:=PW X e (upT X.K W t)
theorem DW.dt (h:DW X W e t):DT X W e t:=PW.pt h
theorem ags (h:DT X W a t):DW X W (.BoolOp .And [a] pos) t:=pw_and1 h
theorem afM (h:DT X W a t):DW X W (.BoolOp .Or [a] pos) t:=pw_or1 h
theorem aid (h:DT X W a t) (h2:DW X W (.BoolOp .And (b::rest) pos) u):DW X W (.BoolOp .And (a::b::rest) pos) (dAnd t u):=akW (pw_and h h2) fun σ H R ⟨G,so,sl,Q,E,rep,q,hq,hx⟩=>
  ⟨G,so,sl,_,E,rep,q,fun k H1 G1 s1 p q1=>by
    cases k with
    | true=>rw [if_pos rfl];exact ⟨G1,so,s1,Q,E,p.rep,(brt q1),fun k' H2 G2 s2 p2 q2=>hq k' H2 G2 s2 (p.trans p2) q2,hx.step p⟩
    | false=>rw [if_neg Bool.false_ne_true];exact hq false H1 G1 s1 p ((brf q1)),hx⟩
theorem agr (h:DT X W a t) (h2:DW X W (.BoolOp .Or (b::rest) pos) u):DW X W (.BoolOp .Or (a::b::rest) pos) (dOr t u):=akW (pw_or h h2) fun σ H R ⟨G,so,sl,Q,E,rep,q,hq,hx⟩=>
  ⟨G,so,sl,_,E,rep,q,fun k H1 G1 s1 p q1=>by
    cases k with
    | true=>rw [if_pos rfl];exact hq true H1 G1 s1 p ((brt q1))
    | false=>rw [if_neg Bool.false_ne_true];exact ⟨G1,so,s1,Q,E,p.rep,(brf q1),fun k' H2 G2 s2 p2 q2=>hq k' H2 G2 s2 (p.trans p2) q2,hx.step p⟩,hx⟩
theorem acw (h:DT X W a t):DT X W (.UnaryOp .Not a pos) (dNot t):=afF (pt_not h) fun σ H R ⟨G,so,sl,Q,E,rep,q,hq,hx⟩=>⟨G,so,sl,_,E,rep,q,fun k H1 G1 s1 p q1=>hq (!k) H1 G1 s1 p q1,hx⟩
theorem aeg (hc:DT X W c t) (ha:DE X W a ta) (hb:DE X W b tb):DE X W (.IfExp c a b pos) (dIfE t ta tb):=aa6 (pe_ifExp hc ha hb) fun σ H R ⟨G,so,sl,Q,E,rep,q,hq,hx⟩=>
  ⟨G,so,sl,_,E,rep,q,fun k H1 G1 s1 p q1=>by
    cases k with
    | true=>rw [if_pos rfl];exact ⟨G1,so,s1,Q,E,p.rep,(brt q1),fun v H2 G2 dv s2 p2 q2=>hq v H2 G2 dv s2 (p.thenE p2) q2,hx.step p⟩
    | false=>rw [if_neg Bool.false_ne_true];exact ⟨G1,so,s1,Q,E,p.rep,(brf q1),fun v H2 G2 dv s2 p2 q2=>hq v H2 G2 dv s2 (p.thenE p2) q2,hx.step p⟩,hx⟩
theorem ahc {op:BoolOp} (h:DE X W a ta):DE X W (.BoolOp op [a] pos) ta:=pe_one h
theorem aij (ha:DE X W a ta) (hb:DE X W (.BoolOp .And (b::rest) pos) tb):DE X W (.BoolOp .And (a::b::rest) pos) (dAndV ta tb):=aa6 (pe_and ha hb) fun σ H R ⟨G,so,sl,Q,E,rep,q,hq,hx⟩=>
  ⟨G,so,sl,_,E,rep,q,fun v H1 G1 dv s1 p q1=>by
    split at q1
    · have w:=p.val
      cases w
      rename_i k
      refine ⟨_,rfl,?_⟩
      cases k with
      | true=>rw [if_pos rfl];exact ⟨G1,so,s1,Q,E,p.rep,(brt q1),fun v H2 G2 dv s2 p2 q2=>hq v H2 G2 dv s2 (p.toPost.thenE p2) q2,hx.step p.toPost⟩
      | false=>rw [if_neg Bool.false_ne_true];exact hq _ H1 G1 _ s1 p ((brf q1))
    · exact q1.elim,hx⟩
theorem de_or (ha:DE X W a ta) (hb:DE X W (.BoolOp .Or (b::rest) pos) tb):DE X W (.BoolOp .Or (a::b::rest) pos) (dOrV ta tb):=aa6 (pe_or ha hb) fun σ H R ⟨G,so,sl,Q,E,rep,q,hq,hx⟩=>
  ⟨G,so,sl,_,E,rep,q,fun v H1 G1 dv s1 p q1=>by
    split at q1
    · have w:=p.val
      cases w
      rename_i k
      refine ⟨_,rfl,?_⟩
      cases k with
      | true=>rw [if_pos rfl];exact hq _ H1 G1 _ s1 p ((brt q1))
      | false=>rw [if_neg Bool.false_ne_true];exact ⟨G1,so,s1,Q,E,p.rep,(brf q1),fun v H2 G2 dv s2 p2 q2=>hq v H2 G2 dv s2 (p.toPost.thenE p2) q2,hx.step p.toPost⟩
    · exact q1.elim,hx⟩
theorem ann (ha:DE X W a ta):DE X W (.UnaryOp .Not a pos) (dNotV ta):=aa6 (pe_notT ha) fun σ H R ⟨G,so,sl,Q,E,rep,q,hq,hx⟩=>⟨G,so,sl,_,E,rep,q,fun v H1 G1 dv s1 p q1=>by
    obtain ⟨k,tv,qk⟩:=akR p.rep.h p.val q1
    exact ⟨k,tv,hq _ H1 G1 _ s1 (p.toPost.thenV (.dat p.rep.h (.bl _))) qk⟩,hx⟩
def dats:List DV->Option (List D)
  | []=>some []
  | .d x::r=>(dats r).map (x::·)
  | _=>none
theorem aev {G:Hp} {so:So}:∀ {vs:List V} {ds:List DV} {xs:List D},VsOk K G so H vs ds->dats ds=some xs->DAll K G vs xs
  | _,_,_,.nil,e=>by cases e;exact .nil
  | _,_,_,.cons (d:=.d x) h n t,e=>by
    unfold dats at e
    rename_i ds0
    cases z:dats ds0 with
    | none=>rw [z] at e;cases e
    | some ys=>rw [z] at e;cases e;exact .cons h (aev t z)
  | _,_,_,.cons (d:=.src) h n t,e=>by cases e
  | _,_,_,.cons (d:=.own o) h n t,e=>by cases e
  | _,_,_,.cons (d:=.bor o) h n t,e=>by cases e
  | _,_,_,.cons (d:=.see o) h n t,e=>by cases e
@[irreducible] def tupR (xs:List DV) (Q:DV->Prop):Prop:=match dats xs with
  | some ds=>ds.length<=szl/\Q (.d (.tup ds))
  | none=>False
@[irreducible] def lstR (xs:List DV) (Q:DV->Prop):Prop:=match dats xs with
  | some ds=>ds.length<=szl/\Q (.own (.lst ds))
  | none=>False
theorem aaN {es:List Expr} {ta:TDA} {k:Nat} (h:DA X W es ta):DE X W (.Tuple es k pos) (dCB tupR ta):=aa6 (pe_tup h) fun σ H R ⟨G,so,sl,Q,E,rep,q,hq,hx⟩=>
  ⟨G,so,sl,_,E,rep,q,fun vs H1 G1 ds s1 p w q1=>by
    unfold tupR at q1
    split at q1
    · rename_i xs e
      have a:=aev w e
      exact ⟨by rw [a.length,<- aci];exact q1.1,fun l n=>hq _ _ _ _ s1 (p.thenV (.tuple p.rep.h n a)) q1.2⟩
    · exact q1.elim,hx⟩
theorem abd {es:List Expr} {ta:TDA} (h:DA X W es ta):DE X W (.List es pos) (dCB lstR ta):=aa6 (pe_lst h) fun σ H R ⟨G,so,sl,Q,E,rep,q,hq,hx⟩=>
  ⟨G,so,sl,_,E,rep,q,fun vs H1 G1 ds s1 p w q1=>by
    unfold lstR at q1
    split at q1
    · rename_i xs e
      have a:=aev w e
      exact ⟨by rw [a.length,<- aci];exact q1.1,fun l n=>hq _ _ _ _ s1 (p.thenV (.list p.rep.h n a)) q1.2⟩
    · exact q1.elim,hx⟩
end
abbrev TDG:=D->DSt->(DSt->Prop)->Prop
abbrev TDGs:=List D->DSt->(DSt->Prop)->Prop
def GSem (K:PySem.W.Frag) (n:Nat) (ix:List Nat) (g:TG) (gd:TDG):Prop:=∀ (G:Hp) (so:So) (σ:L2.St) (H:Hp) (sl:DSt) (v:V) (d:D) (Q:DSt->Prop) (R:L2.St->Hp->Prop),σ.length=n->Rep K G so σ H sl->DOk K G v d->gd d sl Q->
  (∀ σ' sl',PostS K G so σ H sl σ' H G sl'->(∀ j,j∉ix->σ'[j]?=σ[j]?/\sl'[j]?=sl[j]?)->Q sl'->R σ' H)->g v σ H R
structure DG (X:Cx) (ix:List Nat) (tg:Expr) (g:TG) (gd:TDG):Prop where
  pg:PG X tg g
  sem:GSem X.K X.N.length ix g gd
def gD (i:Nat):TDG:=fun d sl Q=>Q (sl.set i (some (.d d)))
def gNilD:TDGs:=fun ds sl Q=>match ds with
  | []=>Q sl
  | _=>False
def gConsD (g:TDG) (r:TDGs):TDGs:=fun ds sl Q=>match ds with
  | d::ds'=>g d sl fun s1=>r ds' s1 Q
  | []=>False
section
variable {X:Cx} {pos:Pos} {i:Nat} {x:Str} {ix iy:List Nat} {e:Expr} {es:List Expr} {gd:TDG} {gs:TDGs} {g1:TG} {g2:TGs}
theorem ajK {K:PySem.W.Frag} {n:Nat} (hi:i < n):GSem K n [i] (gName i) (gD i):=by
  intro G so σ H sl v d Q R hl rep w q k
  have h0:i < σ.length:=by rw [hl];exact hi
  refine k _ _ ((PostE.here rep (dv:=.d d) w (fun _ z=>(nomatch z)) fun _ _ z=>(nomatch z)).set h0 fun _ z=>by cases z) (fun j hj=>?_) q
  exact ⟨List.getElem?_set_ne fun z=>hj (by simp [z]),List.getElem?_set_ne fun z=>hj (by simp [z])⟩
theorem aaB (hN:X.N.Nodup) (hi:X.N[i]?=some x) (hx:Loc X.env.scope x) (hf:X.fn x=true\/X.env.scope.names.lookup x=some .local:=by first | exact .inl rfl | exact .inr rfl | assumption):DG X [i] (.Name x pos) (gName i) (gD i):=
  ⟨pg_name hN hi hx hf,ajK (List.getElem?_eq_some_iff.mp hi).1⟩
end
abbrev TDI:=DSt->(List D->DSt->Prop)->XP->Prop
def ItD (K:PySem.W.Frag) (G:Hp) (so:So) (σ:L2.St) (H:Hp) (sl:DSt) (J:It) (ds:List D):Prop:=∃ ps:List Addr,(∀ a∈ps,H a≠none/\so.Nt a/\¬ Own sl σ a)/\
  (∀ (i:Nat) H1,i < ds.length->(∀ a∈ps,H1 a=H a)->J.go i H1)/\(∀ H1,(∀ a∈ps,H1 a=H a)->J.stop ds.length H1)/\
  (∀ (i:Nat) H1 x H2 G1,(∀ a∈ps,H1 a=H a)->Ex G G1->HRep K G1 so H1->J.yld i H1 x H2->i < ds.length->∃ d G2,ds[i]?=some d/\PostV K G1 so H1 x H2 G2 (.d d))
def upI (K:PySem.W.Frag) (W:WX) (t:TDI):TI:=fun σ H R=>∃ G so sl Q E,Rep K G so σ H sl/\t sl Q E/\(∀ J H' G' ds sl',Post K G so σ H sl H' G' sl'->ItD K G' so σ H' sl' J ds->Q ds sl'->R J H')/\XOk K W G so σ H sl E
def DI (X:Cx) (W:WX) (tg iter:Expr) (t:TDI):Prop:=PI X tg iter (upI X.K W t)
theorem aji {X:Cx} {tg e:Expr} {t t':TI} (h:PI X tg e t) (f:∀ σ H R,t' σ H R->t σ H R):PI X tg e t':=⟨fun pins s σ H Q I q=>h.run pins s σ H Q I (f _ _ _ q)⟩
def signs (z:Str):List D:=z.cps.toList.map fun c=>.str ⟨#[c]⟩
@[irreducible] def iterR:DV->(List D->Prop)->Prop
  | .d (.tup ds),Q=>Q ds
  | .d (.str z),Q=>Q (signs z)
  | .see _,_=>False
  | v,Q=>match v.items with
    | some ds=>Q ds
    | none=>False
def dIter (te:TD):TDI:=fun sl Q E=>te sl (fun x s1=>iterR (pubV x) fun ds=>Q ds s1) E
def intsFrom (lo:Int):Nat->List D
  | 0=>[]
  | n + 1=>.int lo::intsFrom (lo + 1) n
theorem ade (lo:Int) (n:Nat):(intsFrom lo n).length=n:=by
  induction n generalizing lo with
  | zero=>rfl
  | succ n ih=>show (intsFrom (lo + 1) n).length + 1=n + 1;rw [ih]
theorem ag7 (lo:Int) (n i:Nat) (h:i < n):(intsFrom lo n)[i]?=some (.int (lo + i)):=by
  induction n generalizing lo i with
  | zero=>omega
  | succ n ih=>
    cases i with
    | zero=>show some (D.int lo)=_;rw [show lo + ((0:Nat):Int)=lo by omega]
    | succ i=>show (intsFrom (lo + 1) n)[i]?=_;rw [ih (lo + 1) i (by omega)];congr 2;omega
def dItA (rd:List DV->(List D->Prop)->Prop) (ta:TDA):TDI:=fun sl Q E=>ta sl (fun xs s1=>rd xs fun ds=>Q ds s1) E
@[irreducible] def akl:List DV->(List D->Prop)->Prop
  | [.d (.int j)],Q=>-(2 ^ 62)<=j/\j < 2 ^ 62/\Q (intsFrom 0 j.toNat)
  | _,_=>False
section
variable {X:Cx} {W:WX} {tg e e2 a b:Expr} {te:TD} {ta:TDA} {pos p:Pos}
def iAny (K:PySem.W.Frag) (tl:TE):TI:=fun σ H R=>tl σ H fun x H1=>(∃ a,x=.ref a/\(∃ xs,SqL K H1 a xs)/\R (Itl K a) H1)\/(∃ a,x=.ref a/\(∃ xs,SqT K H1 a xs)/\R (Itt K a) H1)\/∃ z,x=.str z/\R (Its z) H1
theorem amS {tl:TE} (hl:PE X e tl):PI X tg e (iAny X.K tl):=by
  refine ⟨fun pins s σ H R I h=>thn (hl.run pins s σ H _ I h) fun v s1 ⟨x,H1,I1,r1,q1⟩=>?_⟩
  rcases q1 with ⟨a,ex,⟨xs,hq⟩,q⟩ | ⟨a,ex,⟨xs,hq⟩,q⟩ | ⟨z,ex,q⟩
  · subst ex;cases r1
    obtain ⟨its,rv,pl,_⟩:=I1.list hq
    exact wpAny_pyIter_list pl.isList (pi_one (tk:=s1.toks) I1 _ (turn_list a _) ⟨_,Heap.get?_push_size _ rfl,rfl,rfl⟩ q)
  · subst ex;cases r1
    obtain ⟨its,rv,pt,_⟩:=I1.tuple hq
    exact wpAny_pyIter_tuple (show s1.heap.IsTuple a its.toArray from pt) (pi_one (tk:=s1.toks) I1 _ (turn_tuple a _) ⟨_,Heap.get?_push_size _ rfl,rfl,rfl⟩ q)
  · subst ex
    obtain ⟨t,rfl⟩:=r1
    cases ha:z.cps.all (· < 128)
    · exact wpAny_pyIter_wide ha (pi_one (tk:=s1.toks) I1 _ (turn_str _ z t "str_iterator" (.inr rfl)) ⟨_,Heap.get?_push_size _ rfl,rfl,rfl⟩ q)
    · exact wpAny_pyIter_ascii ha (pi_one (tk:=s1.toks) I1 _ (turn_str _ z t "str_ascii_iterator" (.inl rfl)) ⟨_,Heap.get?_push_size _ rfl,rfl,rfl⟩ q)
section
variable {K:PySem.W.Frag} {G H:Hp} {so:So} {σ:L2.St} {sl:DSt} {v w:V} {dv dw:DV}
theorem VOk.listS {ds:List D} (rep:Rep K G so σ H sl) (w:VOk K G so H v dv) (n:∀ o a,dv=.own o\/dv=.bor o->v=.ref a->¬ Own sl σ a) (m:∀ o,dv≠.see o) (e:dv.items=some ds) :
    ∃ a vs,v=.ref a/\H a=some (.lst vs)/\DAll K G vs ds/\H a≠none/\so.Nt a/\¬ Own sl σ a:=by
  unfold DV.items at e
  split at e
  · cases e
    cases w with
    | lst g al=>exact ⟨_,_,rfl,rep.h.ex _ _ g,al,by rw [rep.h.ex _ _ g];simp,rep.h.nsrc g,fun z=>by have:=(rep.nown z).2.1;rw [g] at this;cases this⟩
  · cases e
    obtain ⟨c,rfl,g,s,vs,e1,al⟩:=w
    exact ⟨c,vs,rfl,e1,al,by rw [e1];simp,s,n _ c (.inl rfl) rfl⟩
  · cases e
    obtain ⟨c,rfl,s,vs,e1,al⟩:=w
    exact ⟨c,vs,rfl,e1,al,by rw [e1];simp,s,n _ c (.inr rfl) rfl⟩
  · exact absurd rfl (m _)
  · cases e
theorem al8 {c:Addr} {vs:List V} {ds:List D} (e:H c=some (.lst vs)) (al:DAll K G vs ds) (s:so.Nt c) (n:¬ Own sl σ c):ItD K G so σ H sl (Itl K c) ds:=by
  refine ⟨[c],fun a ha=>?_,fun i H1 hi k=>?_,fun H1 k=>?_,fun i H1 x H2 G1 k g h1 y hi=>?_⟩
  · obtain rfl:a=c:=by simpa using ha
    exact ⟨by rw [e];simp,s,n⟩
  · have q:H1 c=some (.lst vs):=by rw [k c (by simp)];exact e
    have hl:i < vs.length:=by rw [al.length];exact hi
    exact ⟨vs,vs[i],SqL.of q,by simp [hl]⟩
  · have q:H1 c=some (.lst vs):=by rw [k c (by simp)];exact e
    exact ⟨vs,SqL.of q,by rw [al.length];exact Nat.le_refl _⟩
  · have q:H1 c=some (.lst vs):=by rw [k c (by simp)];exact e
    obtain ⟨rfl,y⟩:=y
    obtain ⟨d,e1,e2⟩:=al.getV (y vs (SqL.of q))
    exact ⟨d,G1,e1,.dat h1 (e2.mono g)⟩
theorem ana {c:Addr} {vs:List V} {ds:List D} (rep:Rep K G so σ H sl) (e:SqT K G c vs) (al:DAll K G vs ds):ItD K G so σ H sl (Itt K c) ds:=by
  have kp:∀ (H1:Hp),(∀ a∈(if G c=none then [] else [c]),H1 a=H a)->SqT K H1 c vs:=fun H1 k=>by
    rcases e with (e | ⟨o,e⟩) | e
    · refine .inl (.inl ?_)
      rw [k c (by rw [if_neg (by rw [e];simp)];simp)];exact rep.h.ex _ _ e
    · refine .inl (.inr ⟨o,?_⟩)
      rw [k c (by rw [if_neg (by rw [e];simp)];simp)];exact rep.h.ex _ _ e
    · exact .inr e
  refine ⟨if G c=none then [] else [c],fun a ha=>?_,fun i H1 hi k=>?_,fun H1 k=>?_,fun i H1 x H2 G1 k g h1 y hi=>?_⟩
  · split at ha
    · simp at ha
    · rename_i z
      obtain rfl:a=c:=by simpa using ha
      obtain ⟨o,eo⟩:=Option.ne_none_iff_exists'.mp z
      exact ⟨by rw [rep.h.ex _ _ eo];simp,rep.h.nsrc eo,fun q=>z (rep.nown q).2.1⟩
  · have hl:i < vs.length:=by rw [al.length];exact hi
    exact ⟨vs,vs[i],kp H1 k,by simp [hl]⟩
  · exact ⟨vs,kp H1 k,by rw [al.length];exact Nat.le_refl _⟩
  · obtain ⟨rfl,y⟩:=y
    obtain ⟨d,e1,e2⟩:=al.getV (y vs (kp _ k))
    exact ⟨d,G1,e1,.dat h1 (e2.mono g)⟩
theorem anb {z:Str}:ItD K G so σ H sl (Its z) (signs z):=by
  have hl:(signs z).length=z.cps.size:=by unfold signs;simp
  refine ⟨[],fun a ha=>by simp at ha,fun i H1 hi k=>by rw [hl] at hi;exact hi,fun H1 k=>Nat.le_of_eq hl.symm,fun i H1 x H2 G1 k g h1 y hi=>?_⟩
  obtain ⟨rfl,c,e,rfl⟩:=y
  refine ⟨.str ⟨#[c]⟩,G1,?_,.dat h1 (.str _)⟩
  unfold signs
  rw [List.getElem?_map,Array.getElem?_toList,e];rfl
theorem anc {lo:Int} {n:Nat}:ItD K G so σ H sl (Itr lo n) (intsFrom lo n):=by
  have hl:=ade lo n
  refine ⟨[],fun a ha=>by simp at ha,fun i H1 hi k=>by rw [hl] at hi;exact hi,fun H1 k=>Nat.le_of_eq hl.symm,fun i H1 x H2 G1 k g h1 y hi=>?_⟩
  obtain ⟨rfl,rfl⟩:=y
  rw [hl] at hi
  exact ⟨_,G1,ag7 lo n i hi,.dat h1 (.int _)⟩
end
end
section
variable {X:Cx} {W:WX} {tg e e2 a b:Expr} {te:TD} {ta:TDA} {pos p:Pos}
theorem acL (h:DE X W e te):DI X W tg e (dIter te):=aji (amS h) fun σ H R ⟨G,so,sl,Q,E,rep,q,hq,hx⟩=>by
  refine ⟨G,so,sl,_,E,rep,q,fun x H1 G0 dx s1 p0 q1=>?_,hx⟩
  obtain ⟨G1,p⟩:=p0.pub
  have w:=p.val
  have sv:=p.sepv
  have rp:=p.rep
  have pp:=p.toPost
  generalize hz:pubV dx=dz at w q1 sv
  unfold iterR at q1
  split at q1
  · cases w with
    | tup g al=>exact .inr (.inl ⟨_,rfl,⟨_,ex_t rp.h.ex g⟩,hq _ H1 G1 _ s1 pp (ana rp g al) q1⟩)
  · cases w;exact .inr (.inr ⟨_,rfl,hq _ H1 G1 _ s1 pp anb q1⟩)
  · exact q1.elim
  · split at q1
    · rename_i ns _o ds e1
      obtain ⟨c,vs,rfl,e2,al,_,s,n⟩:=VOk.listS rp w (fun o c e' q'=>sv c o e' q') (fun o z=>ns o z) e1
      exact .inl ⟨c,rfl,⟨_,SqL.of e2⟩,hq _ H1 G1 _ s1 pp (al8 e2 al s n) q1⟩
    · exact q1.elim
theorem VsOk.v1 {K:PySem.W.Frag} {G H:Hp} {so:So} {vs:List V} {d:DV} (h:VsOk K G so H vs [d]):∃ v,vs=[v]/\VOk K G so H v d/\∀ o,d≠.own o:=by
  cases h with
  | cons w n t=>cases t;exact ⟨_,rfl,w,n⟩
theorem VsOk.v2 {K:PySem.W.Frag} {G H:Hp} {so:So} {vs:List V} {d e:DV} (h:VsOk K G so H vs [d,e]):∃ v w,vs=[v,w]/\VOk K G so H v d/\VOk K G so H w e/\(∀ o,d≠.own o)/\∀ o,e≠.own o:=by
  cases h with
  | cons w n t=>
    obtain ⟨v,rfl,w2,n2⟩:=t.v1
    exact ⟨_,v,rfl,w,w2,n,n2⟩
theorem alC {K:PySem.W.Frag} {G H:Hp} {so:So} {σ:L2.St} {sl:DSt} (rep:Rep K G so σ H sl) {c:Addr} {o:HO} (g:G c=some o):¬ Own sl σ c:=fun z=>by
  have:=(rep.nown z).2.1
  rw [g] at this;cases this
theorem abY (hg:Gl X "range") (hm:X.mg "range"=none) (h:DA X W [a] ta) (hs:starEach [a] X.env=[(false,eval a X.env)]:=by rfl):DI X W tg (.Call (.Name "range" p) [a] [] pos) (dItA akl ta):=aji (pi_range1 hg hm h hs) fun σ H R ⟨G,so,sl,Q,E,rep,q,hq,hx⟩=>by
  refine ⟨G,so,sl,_,E,rep,q,fun vs H1 G1 ds s1 pp w q1=>?_,hx⟩
  unfold akl at q1
  split at q1
  · obtain ⟨v,rfl,w1,_⟩:=w.v1
    cases w1
    exact ⟨_,rfl,q1.1,q1.2.1,hq _ H1 G1 _ s1 pp anc q1.2.2⟩
  · exact q1.elim
end
section
variable {X:Cx} {W:WX} {e e2:Expr} {ta:TDA} {pos p:Pos}
end
def ajZ (g:TDG) (tb:TDS) (E:EndsD):List D->DSt->Prop
  | [],sl=>E.nx sl
  | d::r,sl=>g d sl fun s1=>tb { nx:=ajZ g tb E r,ct:=ajZ g tb E r,bk:=E.nx,rt:=E.rt,xc:=E.xc } s1
@[irreducible] def dForL (g:TDG) (tb:TDS) (E:EndsD) (ds:List D) (sl:DSt):Prop:=ajZ g tb E ds sl
theorem adP {g:TDG} {tb:TDS} {E:EndsD} {sl:DSt}:dForL g tb E [] sl=E.nx sl:=by unfold dForL;rfl
theorem adg {g:TDG} {tb:TDS} {E:EndsD} {sl:DSt} {d:D} {r:List D}:dForL g tb E (d::r) sl=g d sl fun s1=>tb { nx:=dForL g tb E r,ct:=dForL g tb E r,bk:=E.nx,rt:=E.rt,xc:=E.xc } s1:=by unfold dForL;rfl
def dFor (ti:TDI) (g:TDG) (tb:TDS):TDS:=fun E sl=>ti sl (fun ds s1=>dForL g tb E ds s1) E.xc
section
variable {X:Cx} {W:WX} {tg iter:Expr} {body:List Stmt} {ti:TDI} {g:TDG} {tb:TDS} {pos:Pos} {ix:List Nat} {g':TG}
theorem adh (hp:PassesOwn (model X.prog X.w) X.A X.env X.xe) (hc:X.calm=true) (hi:DI X W tg iter ti) (hg:DG X ix tg g' g) (hb:DSs X W body tb) (hs:∀ x,foldedSetIterable iter X.env x=pure x:=by intro _;rfl):DS X W (.For tg iter body [] pos) (dFor ti g tb):=by
  obtain ⟨pg,sg⟩:=hg
  refine aje (ps_for hp hc hi pg hb hs) fun D σ H hl ⟨G,so,sl,E,rep,q,ok⟩=>?_
  refine ⟨G,so,sl,_,E.xc,rep,q,fun J H1 G1 ds s1 p0 it q1=>?_,ok.xc.ex⟩
  obtain ⟨ps,prot,goes,stops,yields⟩:=it
  have same:∀ {σ':L2.St} {H' G':Hp} {sl':DSt},PostS X.K G1 so σ H1 s1 σ' H' G' sl'->∀ a∈ps,H' a=H1 a:=fun {σ' H' G' sl'} t a ha=>by
    obtain ⟨n,s,w⟩:=prot a ha
    obtain ⟨o,eo⟩:=Option.ne_none_iff_exists'.mp n
    rw [t.keep a o eo s w,eo]
  have ok1:=ok.step p0.s
  refine ⟨fun i m σ' H'=>m=ds.length - i/\i<=ds.length/\∃ G' sl',PostS X.K G1 so σ H1 s1 σ' H' G' sl'/\dForL g tb E (ds.drop i) sl',⟨ds.length,by simp,Nat.zero_le _,G1,s1,.refl p0.rep,q1⟩,?_⟩
  rintro i m σ' H' ⟨rfl,hi,G',sl',t,q2⟩
  by_cases hlt:i < ds.length
  · refine .inr ⟨goes i H' hlt (same t),fun σ'' H''=>∃ G'' sl'',PostS X.K G1 so σ H1 s1 σ'' H'' G'' sl''/\dForL g tb E (ds.drop (i + 1)) sl'',fun σ'' H'' ⟨G'',sl'',t2,q3⟩=>⟨ds.length - (i + 1),by omega,rfl,hlt,G'',sl'',t2,q3⟩,fun x H2 y=>?_⟩
    obtain ⟨d,G2,ed,pv⟩:=yields i H' x H2 G' (same t) t.ex t.rep.h y hlt
    have pe:=pv.slots t.rep
    have t2:=t.trans pe.toPost.s
    rw [List.drop_eq_getElem_cons hlt] at q2
    have ed':ds[i]=d:=by rw [List.getElem?_eq_getElem hlt] at ed;exact Option.some.inj ed
    rw [ed',adg] at q2
    refine sg G2 so σ' H2 sl' x d _ _ (t.ln.trans hl) pe.rep pe.val q2 fun σ3 sl3 t3 _ q3=>?_
    have t13:=t2.trans t3
    refine ⟨G2,so,sl3,_,t3.rep,q3,⟨fun σ4 H4 G4 s4 t4 q4=>⟨G4,s4,t13.trans t4,q4⟩,fun σ4 H4 G4 s4 t4 q4=>ok1.nx σ4 H4 G4 s4 (t13.trans t4) q4,fun σ4 H4 G4 s4 t4 q4=>⟨G4,s4,t13.trans t4,q4⟩,fun v H4 G4 dv z4 t4 q4=>ok1.rt v H4 G4 dv z4 (t13.thenR t4) q4,ok1.xc.step t13⟩⟩
  · have e:i=ds.length:=by omega
    subst e
    rw [List.drop_length,adP] at q2
    exact .inl ⟨stops H' (same t),ok1.nx σ' H' G' sl' t q2⟩
end
def dWhile (c:TDT) (tb:TDS):TDS:=fun E sl=>∃ I:Nat->DSt->Prop,(∃ m,I m sl)/\∀ m s,I m s->c s (fun b s1=>Br b (tb { nx:=fun s2=>∃ m',m' < m/\I m' s2,ct:=fun s2=>∃ m',m' < m/\I m' s2,bk:=E.nx,rt:=E.rt,xc:=E.xc } s1) (E.nx s1)) E.xc
section
variable {X:Cx} {W:WX} {c:Expr} {body:List Stmt} {tc:TDT} {tb:TDS} {pos:Pos}
theorem akF (hp:PassesOwn (model X.prog X.w) X.A X.env X.xe) (hc:DT X W c tc) (hb:DSs X W body tb):DS X W (.While c body [] pos) (dWhile tc tb):=by
  refine ac8 (ps_while hp hc hb) fun D σ H ⟨G,so,sl,E,rep,⟨I,⟨m0,i0⟩,turn⟩,ok⟩=>?_
  refine ⟨fun m σ' H'=>∃ G' sl',PostS X.K G so σ H sl σ' H' G' sl'/\I m sl',⟨m0,G,sl,.refl rep,i0⟩,?_⟩
  rintro m σ' H' ⟨G',sl',t,im⟩
  have okt:=ok.step t
  refine ⟨G',so,sl',_,E.xc,t.rep,turn m sl' im,fun b H1 G1 s1 p q=>?_,okt.xc.ex⟩
  have t1:=t.trans p.s
  cases b with
  | true=>
    refine iteT ?_
    refine ⟨fun σ2 H2=>∃ m',m' < m/\∃ G2 s2,PostS X.K G so σ H sl σ2 H2 G2 s2/\I m' s2,fun σ2 H2 h=>h,?_⟩
    exact ⟨G1,so,s1,_,p.rep,(brt q),⟨fun σ4 H4 G4 s4 t4 ⟨m',hm,q4⟩=>⟨m',hm,G4,s4,t1.trans t4,q4⟩,fun σ4 H4 G4 s4 t4 q4=>ok.nx σ4 H4 G4 s4 (t1.trans t4) q4,fun σ4 H4 G4 s4 t4 ⟨m',hm,q4⟩=>⟨m',hm,G4,s4,t1.trans t4,q4⟩,fun v H4 G4 dv z4 t4 q4=>ok.rt v H4 G4 dv z4 (t1.thenR t4) q4,ok.xc.step t1⟩⟩
  | false=>
    refine iteF ?_
    exact ok.nx σ' H1 G1 s1 t1 ((brf q))
end
def wipeD (sl:DSt):List Nat->DSt
  | []=>sl
  | v::vs=>(wipeD sl vs).set v none
def amr (g:TDG) (tt:TDT) (te:TD) (vs:List Nat) (Q:DV->DSt->Prop):List D->List D->DSt->Prop
  | [],acc,sl=>Q (.own (.lst acc)) sl
  | d::r,acc,sl=>g d sl fun s1=>tt s1 (fun b s2=>Br b (te s2 (fun x s3=>match pubV x with
    | .d y=>acc.length < szl/\amr g tt te vs Q r (acc++[y]) (wipeD s3 vs)
    | _=>False) fun _ _ _=>False) (amr g tt te vs Q r acc (wipeD s2 vs))) fun _ _ _=>False
@[irreducible] def dLcL (g:TDG) (tt:TDT) (te:TD) (vs:List Nat) (Q:DV->DSt->Prop) (ds acc:List D) (sl:DSt):Prop:=amr g tt te vs Q ds acc sl
theorem ae0 {g:TDG} {tt:TDT} {te:TD} {vs:List Nat} {Q:DV->DSt->Prop} {acc:List D} {sl:DSt}:dLcL g tt te vs Q [] acc sl=Q (.own (.lst acc)) sl:=by unfold dLcL;rfl
theorem adN {g:TDG} {tt:TDT} {te:TD} {vs:List Nat} {Q:DV->DSt->Prop} {d:D} {r acc:List D} {sl:DSt}:dLcL g tt te vs Q (d::r) acc sl=g d sl fun s1=>tt s1 (fun b s2=>Br b (te s2 (fun x s3=>match pubV x with
    | .d y=>acc.length < szl/\dLcL g tt te vs Q r (acc++[y]) (wipeD s3 vs)
    | _=>False) fun _ _ _=>False) (dLcL g tt te vs Q r acc (wipeD s2 vs))) fun _ _ _=>False:=by unfold dLcL;rfl
def dLc (ti:TDI) (g:TDG) (tt:TDT) (te:TD) (vs:List Nat):TD:=fun sl Q E=>ti sl (fun ds s1=>dLcL g tt te vs Q ds [] (wipeD s1 vs)) E
def dYes:TDT:=fun sl Q _=>Q true sl
def DTs (X:Cx) (W:WX) (ifs:List Expr) (t:TDT):Prop:=PTs X ifs (upT X.K W t)
abbrev W0:WX:=fun _ _ _ _=>False
section
variable {X:Cx} {W:WX}
theorem abF:DTs X W [] dYes:=⟨fun pins s σ H Q I ⟨G,so,sl,Q',E,rep,q,hq,hx⟩=>pts_nil.run pins s σ H Q I (hq true H G sl (.refl rep) q)⟩
theorem amh {c:Expr} {t:TDT} (h:DT X W c t):DTs X W [c] t:=pts_one h
section
variable {K:PySem.W.Frag} {G:Hp} {so:So} {σ:L2.St} {H:Hp} {sl:DSt} {vs:List Nat}
theorem aaj {i:Nat} {x:DV}:∀ {vs:List Nat},(wipeD sl vs)[i]?=some (some x)->sl[i]?=some (some x)/\i∉vs
  | [],h=>⟨h,by simp⟩
  | v::vs,h=>by
    unfold wipeD at h
    rcases get_set h with ⟨rfl,e⟩ | ⟨ne,e⟩
    · cases e
    · obtain ⟨q1,q2⟩:=aaj e
      exact ⟨q1,fun z=>(List.mem_cons.mp z).elim ne q2⟩
theorem agC:∀ (vs:List Nat),(wipeD sl vs).length=sl.length
  | []=>rfl
  | v::vs=>by unfold wipeD;rw [List.length_set,agC vs]
theorem aaT {c:Addr} (h:Own (wipeD sl vs) (wipe σ vs) c):Own sl σ c:=by
  obtain ⟨i,o,e1,e2⟩:=h
  exact ⟨i,o,(aaj e1).1,(wipe_some e2).1⟩
theorem Rep.wipe (r:Rep K G so σ H sl) (vs:List Nat):Rep K G so (L2.wipe σ vs) H (wipeD sl vs):=
  ⟨r.h,by rw [agC,wipe_length];exact r.len,fun i d e=>by
    obtain ⟨e1,n⟩:=aaj e
    obtain ⟨v,f1,f2⟩:=r.slots i d e1
    exact ⟨v,by rw [wipe_out n];exact f1,f2⟩,
    fun i j o o' a e1 e2 e3 e4=>r.sep i j o o' a (aaj e1).1 (aaj e2).1 (wipe_some e3).1 (wipe_some e4).1,
    fun i o a e1 e2 z=>r.bor i o a (aaj e1).1 (wipe_some e2).1 (aaT z),fun i o e=>r.nse i o (aaj e).1⟩
theorem ahi {σ1 σ2:L2.St} (hl:σ1.length=σ2.length) (h:∀ j,j∉vs->σ1[j]?=σ2[j]?):wipe σ1 vs=wipe σ2 vs:=by
  have z:∀ (σ:L2.St) (j:Nat) (vs:List Nat),j∈vs->j < σ.length->(wipe σ vs)[j]?=some none:=by
    intro σ j vs
    induction vs with
    | nil=>intro h;simp at h
    | cons v r ih=>
      intro hm hj
      unfold wipe
      by_cases e:v=j
      · subst e;rw [List.getElem?_set_self (by rw [wipe_length];exact hj)]
      · rw [List.getElem?_set_ne e]
        rcases List.mem_cons.mp hm with q | q
        · exact absurd q.symm e
        · exact ih q hj
  refine List.ext_getElem? fun j=>?_
  by_cases m:j∈vs
  · by_cases hj:j < σ1.length
    · rw [z σ1 j vs m hj,z σ2 j vs m (by rw [<- hl];exact hj)]
    · rw [List.getElem?_eq_none (by rw [wipe_length];omega),List.getElem?_eq_none (by rw [wipe_length];omega)]
  · rw [wipe_out m,wipe_out m];exact h j m
theorem afC (vs:List Nat):L2.wipe (L2.wipe σ vs) vs=L2.wipe σ vs:=ahi (wipe_length σ vs) fun j m=>wipe_out m
theorem Post.unwipe {H1 G1:Hp} {s1:DSt} (r:Rep K G so σ H sl) (p:Post K G so (L2.wipe σ vs) H (wipeD sl vs) H1 G1 s1):Post K G so σ H sl H1 G1 s1:=by
  have lk:∀ (i:Nat) (dv:DV),s1[i]?=some (some dv)->(L2.wipe σ vs)[i]?=σ[i]?:=fun i dv e=>by
    obtain ⟨v,f1,_⟩:=p.rep.slots i dv e
    rw [f1,(wipe_some f1).1]
  have ow:∀ c,Own s1 σ c->Own s1 (L2.wipe σ vs) c:=fun c ⟨i,o,e1,e2⟩=>⟨i,o,e1,by rw [lk i _ e1];exact e2⟩
  refine ⟨p.ex,⟨p.rep.h,by rw [p.rep.len,wipe_length],fun i dv e=>?_,fun i j o o' a e1 e2 e3 e4=>?_,fun i o a e1 e2 z=>?_,p.rep.nse⟩,p.keep,fun a n g s w=>p.frm a n g s fun z=>w (aaT z),fun a z=>aaT (p.sub a (ow a z)),fun i o e=>let ⟨o1,e1⟩:=p.bsub i o e;⟨o1,(aaj e1).1⟩⟩
  · obtain ⟨v,f1,f2⟩:=p.rep.slots i dv e
    exact ⟨v,(wipe_some f1).1,f2⟩
  · exact p.rep.sep i j o o' a e1 e2 (by rw [lk i _ e1];exact e3) (by rw [lk j _ e2];exact e4)
  · exact p.rep.bor i o a e1 (by rw [lk i _ e1];exact e2) (ow a z)
end
variable {elt tg iter:Expr} {ifs:List Expr} {scope:Scope} {own:List (Str × Nat)} {pos spos:Pos} {ti:TDI} {g:TDG} {tt:TDT} {te:TD} {ix:List Nat}
theorem amC {K:PySem.W.Frag} {n:Nat} {g':TG} {σ:L2.St} {H:Hp} {R:VK} (vs:List Nat) (hl:σ.length=n) (sg:GSem K n ix g' g) (hix:∀ j,j∈ix->j∈vs) (h:up K W (dLc ti g tt te vs) σ H R):tLc (upI K W ti) g' (upT K W0 tt) (up K W0 te) vs σ H R:=by
  obtain ⟨G,so,sl,Q,E,rep,q,hq,hx⟩:=h
  refine ⟨G,so,sl,_,E,rep,q,fun J H1 G1 ds s1 p0 it q1=>?_,hx⟩
  obtain ⟨ps,prot,goes,stops,yields⟩:=it
  intro C hC
  have nsC:so.Nt C:=p0.rep.h.there hC
  have rw1:=p0.rep.wipe vs
  have psC:∀ a∈ps,a≠C:=fun a ha z=>(prot a ha).1 (z ▸ hC)
  refine ⟨fun i m H'=>m=ds.length - i/\i<=ds.length/\∃ G' sl' us acc,Post K G1 so (L2.wipe σ vs) H1 (wipeD s1 vs) H' G' sl'/\H' C=some (.lst us)/\G' C=none/\DAll K G' us acc/\dLcL g tt te vs Q (ds.drop i) acc sl',
    ⟨ds.length,by simp,Nat.zero_le _,G1,_,[],[],?_,upd_same,p0.rep.h.ex.free hC,.nil,q1⟩,?_⟩
  · have pv:=PostV.list (K:=K) (G:=G1) (so:=so) (ds:=[]) rw1.h hC .nil
    exact (pv.slots rw1).toPost
  rintro i m H' ⟨rfl,hi,G',sl',us,acc,t,hCl,gC,al,q2⟩
  have same:∀ a∈ps,H' a=H1 a:=fun a ha=>by
    obtain ⟨n1,s,w⟩:=prot a ha
    exact aaU t.keep n1 s
  have noC:∀ {sl'':DSt} {σ'':L2.St},(∀ a,Own sl'' σ'' a->Own (wipeD s1 vs) (L2.wipe σ vs) a)->¬ Own sl'' σ'' C:=fun f z=>(p0.rep.nown (aaT (f C z))).1 hC
  have borC:∀ (j:Nat) (o:OO),(wipeD s1 vs)[j]?=some (some (.bor o))->(L2.wipe σ vs)[j]?=some (some (.ref C))->False:=fun j o e1 e2=>by
    obtain ⟨v,f1,f2⟩:=rw1.slots j _ e1
    rw [e2] at f1;cases f1
    obtain ⟨b,z,_,k⟩:=f2
    cases z
    exact k.there hC
  by_cases hlt:i < ds.length
  · refine .inr ⟨goes i H' hlt same,fun H''=>∃ G'' sl'' us' acc',Post K G1 so (L2.wipe σ vs) H1 (wipeD s1 vs) H'' G'' sl''/\H'' C=some (.lst us')/\G'' C=none/\DAll K G'' us' acc'/\dLcL g tt te vs Q (ds.drop (i + 1)) acc' sl'',
      fun H'' ⟨G'',sl'',us',acc',h1,h2,h3,h4,h5⟩=>⟨ds.length - (i + 1),by omega,rfl,hlt,G'',sl'',us',acc',h1,h2,h3,h4,h5⟩,fun x H2 y=>?_⟩
    obtain ⟨d,G2,ed,pv⟩:=yields i H' x H2 G' same t.ex t.rep.h y hlt
    have pe:=pv.slots t.rep
    have C2:H2 C=some (.lst us):=pe.keep C _ hCl nsC
    have g2:G2 C=none:=pe.frm C (by rw [hCl];simp) gC nsC (noC t.sub)
    rw [List.drop_eq_getElem_cons hlt] at q2
    have ed':ds[i]=d:=by rw [List.getElem?_eq_getElem hlt] at ed;exact Option.some.inj ed
    rw [ed',adN] at q2
    refine sg G2 so _ H2 sl' x d _ _ ((wipe_length σ vs).trans hl) pe.rep pe.val q2 fun σ3 sl3 t3 u3 q3=>?_
    have e3:L2.wipe σ3 vs=L2.wipe σ vs:=by
      rw [<- afC (σ:=σ) vs]
      exact ahi t3.ln fun j hj=>(u3 j fun z=>hj (hix j z)).1
    have sub3:∀ a,Own (wipeD sl3 vs) (L2.wipe σ3 vs) a->Own (wipeD s1 vs) (L2.wipe σ vs) a:=fun a z=>by
      rw [e3] at z
      by_cases w:Own sl' (L2.wipe σ vs) a
      · exact t.sub a w
      · obtain ⟨j,o,z1,z2⟩:=z
        have z2':σ3[j]?=some (some (.ref a)):=by
          rw [<- e3] at z2;exact (wipe_some z2).1
        have ow3:Own sl3 σ3 a:=⟨j,o,(aaj z1).1,z2'⟩
        obtain ⟨n1,g1,s1'⟩:=t3.rep.nown ow3
        exact absurd ow3 (t3.sub a n1 s1' w)
    have sub3':∀ a,Own sl3 σ3 a->Own sl' (L2.wipe σ vs) a:=fun a z=>by
      by_cases w:Own sl' (L2.wipe σ vs) a
      · exact w
      · obtain ⟨n1,g1,s1'⟩:=t3.rep.nown z
        exact absurd z (t3.sub a n1 s1' w)
    have bs3:∀ (j:Nat) (o:OO),sl3[j]?=some (some (.bor o))->j∉vs->∃ o',(wipeD s1 vs)[j]?=some (some (.bor o')):=fun j o e n=>by
      rw [(u3 j fun z=>n (hix j z)).2] at e
      exact t.bsub j o e
    refine ⟨e3,G2,so,sl3,_,fun _ _ _=>False,t3.rep,q3,fun b H4 G4 s4 p4 q4=>?_,fun _ _ _ _ _ _ _ _ z=>z⟩
    have C4:H4 C=some (.lst us):=p4.keep C _ C2 nsC
    have n3C:¬ Own sl3 σ3 C:=fun z=>noC t.sub (sub3' C z)
    have g4:G4 C=none:=p4.frm C (by rw [C2];simp) g2 nsC n3C
    have k4:∀ a o,H1 a=some o->so.Nt a->H4 a=some o:=fun a o e s=>p4.keep a o (pe.keep a o (t.keep a o e s) s) s
    have f4:∀ a,H1 a≠none->G1 a=none->so.Nt a->¬ Own (wipeD s1 vs) (L2.wipe σ vs) a->G4 a=none:=fun a n1 g1 s w=>by
      have n2:¬ Own sl' (L2.wipe σ vs) a:=fun z=>w (t.sub a z)
      have h':H' a≠none:=by rw [aaU t.keep n1 s];exact n1
      have h2:H2 a≠none:=by rw [aaU pe.keep h' s];exact h'
      exact p4.frm a h2 (pe.frm a h' (t.frm a n1 g1 s w) s n2) s fun z=>n2 (sub3' a z)
    have bs4:∀ (j:Nat) (o:OO),s4[j]?=some (some (.bor o))->j∉vs->∃ o',(wipeD s1 vs)[j]?=some (some (.bor o')):=fun j o e n=>by
      obtain ⟨o1,e1⟩:=p4.bsub j o e
      exact bs3 j o1 e1 n
    cases b with
    | false=>
      refine iteF ⟨G4,wipeD s4 vs,us,acc,⟨t.ex.trans (pe.ex.trans p4.ex),?_,k4,f4,fun a z=>?_,fun j o e=>bs4 j o (aaj e).1 (aaj e).2⟩,C4,g4,al.mono (pe.ex.trans p4.ex),(brf q4)⟩
      · have r:=p4.rep.wipe vs;rw [e3] at r;exact r
      · refine t.sub a (sub3' a (p4.sub a (aaT (vs:=vs) ?_)))
        rw [e3];exact z
    | true=>
      refine iteT ⟨G4,so,s4,_,fun _ _ _=>False,p4.rep,(brt q4),fun y H5 G5 dy s5 p5' q5=>?_,fun _ _ _ _ _ _ _ _ z=>z⟩
      obtain ⟨G6,p5⟩:=p5'.pub
      have wv:=p5.val
      split at q5
      · rename_i yd ey
        rw [ey] at wv
        have n4C:¬ Own s4 σ3 C:=fun z=>n3C (p4.sub C z)
        have C5:H5 C=some (.lst us):=p5.keep C _ C4 nsC
        have g5:G6 C=none:=p5.frm C (by rw [C4];simp) g4 nsC n4C
        have k5:∀ a o,H1 a=some o->so.Nt a->H5 a=some o:=fun a o e s=>p5.keep a o (k4 a o e s) s
        have f5:∀ a,H1 a≠none->G1 a=none->so.Nt a->¬ Own (wipeD s1 vs) (L2.wipe σ vs) a->G6 a=none:=fun a n1 g1 s w=>by
          have n2:¬ Own sl' (L2.wipe σ vs) a:=fun z=>w (t.sub a z)
          have h4:H4 a≠none:=by rw [aaU k4 n1 s];exact n1
          exact p5.frm a h4 (f4 a n1 g1 s w) s fun z=>n2 (sub3' a (p4.sub a z))
        have bs5:∀ (j:Nat) (o:OO),s5[j]?=some (some (.bor o))->j∉vs->∃ o',(wipeD s1 vs)[j]?=some (some (.bor o')):=fun j o e n=>by
          obtain ⟨o1,e1⟩:=p5.bsub j o e
          exact bs4 j o1 e1 n
        have al5:DAll K G6 us acc:=al.mono (pe.ex.trans (p4.ex.trans p5.ex))
        have lu:us.length=acc.length:=al5.length
        refine ⟨us,C5,by rw [lu,<- aci];exact q5.1,G6,wipeD s5 vs,us++[y],acc++[yd],⟨t.ex.trans (pe.ex.trans (p4.ex.trans p5.ex)),?_,fun a o e s=>?_,f5,fun a z=>?_,fun j o e=>bs5 j o (aaj e).1 (aaj e).2⟩,upd_same,g5,al5.append (.cons wv .nil),q5.2⟩
        · have r:=p5.rep.wipe vs
          rw [e3] at r
          refine ⟨⟨fun a o e=>?_,fun a k e=>?_,r.h.ok,ad7 r.h.tp (by intro _ z;cases z)⟩,r.len,fun j dv e=>?_,r.sep,r.bor,r.nse⟩
          · rw [upd_ne (ne_of_none e g5)];exact r.h.ex a o e
          · exact (r.h.vol a k e).keep (Ex.refl _) (r.h.vol a k e).g (upd_ne fun z=>nsC (z ▸ ⟨k,e⟩))
          · obtain ⟨v,f1,f2⟩:=r.slots j dv e
            refine ⟨v,f1,?_⟩
            have key:∀ a:Addr,a≠C->(upd H5 C (.lst (us++[y]))) a=H5 a:=fun a z=>upd_ne z
            cases dv with
            | d z=>exact f2
            | src=>exact f2
            | own o=>
              obtain ⟨a,r1,r2,r3,r4⟩:=f2
              subst r1
              have z:a≠C:=fun z=>by
                subst z
                exact noC (fun a z=>t.sub a (sub3' a (p4.sub a (p5.sub a (aaT (vs:=vs) (by rw [e3];exact z)))))) ⟨j,o,e,f1⟩
              exact ⟨a,rfl,r2,r3,r4.keep (Ex.refl _) (key a z)⟩
            | bor o=>
              obtain ⟨a,r1,r3,r4⟩:=f2
              subst r1
              have z:a≠C:=fun z=>by
                subst z
                obtain ⟨o1,z1⟩:=bs5 j o (aaj e).1 (aaj e).2
                exact borC j o1 z1 f1
              exact ⟨a,rfl,r3,r4.keep (Ex.refl _) (key a z)⟩
            | see o=>exact absurd e (r.nse j o)
            | mu y D gs=>exact SlOk.muU f2 (Ex.refl _) nsC
            | gh _ _=>exact SlOk.ghU f2 (Ex.refl _) nsC
        · rw [upd_ne (fun z=>by subst z;rw [hC] at e;cases e)];exact k5 a o e s
        · exact t.sub a (sub3' a (p4.sub a (p5.sub a (aaT (vs:=vs) (by rw [e3];exact z)))))
      · exact q5.elim
  · have e:i=ds.length:=by omega
    subst e
    rw [List.drop_length,ae0] at q2
    refine .inl ⟨stops H' same,hq _ H' G' _ sl' ?_ q2⟩
    have pu:=t.unwipe p0.rep
    refine (p0.thenE { pu with val:=⟨C,rfl,gC,nsC,us,hCl,al⟩,new:=fun a o _ z=>?_,sepv:=fun a o _ z w=>?_,nbs:=fun a o j o' _ z e1 e2=>?_ })
    · cases z;exact .inl hC
    · cases z;exact (p0.rep.nown (pu.sub _ w)).1 hC
    · cases z
      obtain ⟨o1,z1⟩:=t.bsub j o' e1
      have lkj:(L2.wipe σ vs)[j]?=some (some (.ref C)):=by rw [wipe_out (aaj z1).2];exact e2
      exact borC j o1 z1 lkj
theorem adE {g':TG} (hc:X.calm=true) (hN:X.N.Nodup) (hi:DI X W tg iter ti) (ok:BlkOk X.N X.env.scope scope own)
    (hg:∀ s H C cl fp,DG (X.blk s H scope (compEnvC scope cl C X.env) fp) ix tg g' g) (ht:∀ s H C cl fp,DTs (X.blk s H scope (compEnvC scope cl C X.env) fp) W0 ifs tt)
    (he:∀ s H C cl fp,DE (X.blk s H scope (compEnvC scope cl C X.env) fp) W0 elt te) (hix:∀ j,j∈ix->j∈own.map (·.2):=by decide) (hs:∀ x,foldedSetIterable iter X.env x=pure x:=by intro _;rfl) :
    DE X W (.ListComp elt [⟨tg,iter,ifs,0⟩] scope pos) (dLc ti g tt te (own.map (·.2))):=by
  have b:=pe_lc (tt:=upT X.K W0 tt) (te:=up X.K W0 te) (ifs:=ifs) (elt:=elt) (pos:=pos) hc hN hi ok (fun s H C cl fp=>(hg s H C cl fp).pg) ht he hs
  exact ⟨fun pins s σ H Q I q=>b.run pins s σ H Q I (amC _ I.len (hg s H 0 [] []).sem hix q)⟩
theorem akG {g':TG} {i:Nat} {y:Str} {py:Pos} (hc:X.calm=true) (hN:X.N.Nodup) (hy:X.N[i]?=some y) (hyl:X.env.scope.names.lookup y=some .local) (hsw:swapsWith (.ListComp elt [⟨tg,iter,ifs,0⟩] scope pos) (some (.Name y py)) spos.line X.env=pure true)
    (hi:DI X W tg iter ti) (ok:BlkOk X.N X.env.scope scope own)
    (hg:∀ s H C cl fp,DG (X.blk s H scope (compEnvC scope cl C X.env) fp) ix tg g' g) (ht:∀ s H C cl fp,DTs (X.blk s H scope (compEnvC scope cl C X.env) fp) W0 ifs tt)
    (he:∀ s H C cl fp,DE (X.blk s H scope (compEnvC scope cl C X.env) fp) W0 elt te) (hix:∀ j,j∈ix->j∈own.map (·.2):=by decide) (hs:∀ x,foldedSetIterable iter X.env x=pure x:=by intro _;rfl) :
    DS X W (.Assign [.Name y py] (.ListComp elt [⟨tg,iter,ifs,0⟩] scope pos) spos) (dSet (dLc ti g tt te (own.map (·.2))) i):=by
  have b:=ps_setLc (tt:=upT X.K W0 tt) (te:=up X.K W0 te) (pos:=pos) (spos:=spos) (py:=py) hc hN hy hyl hsw hi ok (fun s H C cl fp=>(hg s H C cl fp).pg) ht he hs
  refine ⟨fun pins s σ H D I q=>b.run pins s σ H D I ?_⟩
  have q2:=akP (K:=X.K) (W:=W) (te:=dLc ti g tt te (own.map (·.2))) (i:=i) (D:=D) (σ:=σ) (H:=H) (fun _=>by rw [I.len];exact (List.getElem?_eq_some_iff.mp hy).1) q
  exact amC _ I.len (hg s H 0 [] []).sem hix q2
end
theorem acI {X:Cx}:L2N.Takes X (fun _ _ _ _=>False):=fun _ _ ⟨_,_,_,_,_,_,_,_,_,_,_,_,_,_,_,_,z⟩=>z.elim
theorem tkOf {X:Cx} {E:XK} (hs:X.stack=X.env::X.outer) (hf:X.env.frame=some X.env.locals) (hex:X.ex=[]) {E₁:Value->Shared->Prop}
    (hx:X.xe=fun e s'=>wpAny (model X.prog X.w) X.A (leaving X.env e) (fun _ s''=>L2N.CX X.prog X.w X.outer X.H_0 X.s_0 E e s'') E₁ s'):L2N.Takes X (fun cls d _ H=>E cls d H):=L2N.takes_of hs hf hex hx
abbrev XE':=Value->List (Str × D)->Prop
abbrev SpD:=List DV->(DV->Prop)->XE'->Prop
structure PostH (K:PySem.W.Frag) (G:Hp) (so:So) (H:Hp) (H' G':Hp):Prop where
  ex:Ex G G'
  hrep:HRep K G' so H'
  keep:∀ a o,H a=some o->so.Nq a->H' a=some o
  frm:∀ a,H a≠none->G a=none->so.Nt a->G' a=none
def upSp (K:PySem.W.Frag) (sp:SpD):Sp:=fun vs H Q E=>∃ G so args QD ED,HRep K G so H/\VsOk K G so H vs args/\sp args QD ED/\(∀ v H' G' dv,PostV K G so H v H' G' dv->QD dv->Q v H')/\
  (∀ cls d H' G' fs,PostH K G so H H' G'->XdOk K G' H' d fs->ED cls fs->E cls d H')
def So.drop (so:So):So:=so.filter fun p=>match p.2 with
  | .mt _=>false
  | _=>true
theorem So.drop_sub {so:So} {p:Addr × Kd} (h:p∈so.drop):p∈so:=(List.mem_filter.mp h).1
theorem So.drop_nt {so:So} {a:Addr} (h:so.Nt a):so.drop.Nt a:=fun ⟨k,e⟩=>h ⟨k,So.drop_sub e⟩
theorem So.drop_nq {so:So} {a:Addr} (h:so.Nq a):so.drop.Nt a:=fun ⟨k,e⟩=>by
  obtain ⟨C,rfl⟩:=h k (So.drop_sub e)
  exact absurd (List.mem_filter.mp e).2 (by simp)
theorem So.drop_mt {K:PySem.W.Frag} {so:So} {a C:Addr} (ok:SoOk K so) (h:(a,Kd.mt C)∈so):so.Nq a:=fun k e=>⟨C,ok.uq a k (.mt C) e h⟩
theorem So.drop_in {so:So} {a:Addr} {k:Kd} (h:(a,k)∈so) (n:∀ C,k≠.mt C):(a,k)∈so.drop:=List.mem_filter.mpr ⟨h,by cases k<;>first | rfl | exact absurd rfl (n _)⟩
section
variable {K:PySem.W.Frag} {G G' H H':Hp} {so:So}
theorem SoOk.drop (h:SoOk K so):SoOk K so.drop:=⟨fun q hq=>So.drop_in (h.tb q hq) (fun _ e=>by cases e),fun a k k' e e'=>h.uq a k k' (So.drop_sub e) (So.drop_sub e')⟩
theorem HRep.drop (h:HRep K G so H):HRep K G so.drop H:=⟨h.ex,fun a k e=>h.vol a k (So.drop_sub e),h.ok.drop,h.tp⟩
theorem VOk.drop {v:V} {dv:DV} (h:VOk K G so H v dv):VOk K G so.drop H v dv:=by
  cases dv with
  | d x=>exact h
  | src=>obtain ⟨a,⟨c,e⟩,q⟩:=h;exact ⟨a,⟨c,So.drop_in e (fun _ z=>by cases z)⟩,q⟩
  | own o=>obtain ⟨a,q,g,s,k⟩:=h;exact ⟨a,q,g,So.drop_nt s,k⟩
  | bor o=>obtain ⟨a,q,s,k⟩:=h;exact ⟨a,q,So.drop_nt s,k⟩
  | see o=>obtain ⟨a,q,s,k⟩:=h;exact ⟨a,q,So.drop_nt s,k⟩
  | mu _ _ _=>exact h
  | gh _ _=>exact h
theorem VsOk.drop:∀ {vs:List V} {ds:List DV},VsOk K G so H vs ds->VsOk K G so.drop H vs ds
  | _,_,.nil=>.nil
  | _,_,.cons h n t=>.cons h.drop n (VsOk.drop t)
structure PostU (K:PySem.W.Frag) (G:Hp) (so:So) (H:Hp) (v:V) (H' G':Hp) (dv:DV):Prop where
  ex:Ex G G'
  hrep:HRep K G' so H'
  keep:∀ a o,H a=some o->so.Nt a->H' a=some o
  frm:∀ a,H a≠none->G a=none->so.Nt a->G' a=none
  val:VOk K G' so H' v dv
  new:∀ a o,dv=.own o->v=.ref a->H a=none
  nob:∀ o,dv≠.bor o
structure PostHU (K:PySem.W.Frag) (G:Hp) (so:So) (H:Hp) (H' G':Hp):Prop where
  ex:Ex G G'
  hrep:HRep K G' so H'
  keep:∀ a o,H a=some o->so.Nt a->H' a=some o
  frm:∀ a,H a≠none->G a=none->so.Nt a->G' a=none
theorem HRep.back (h:HRep K G so H) (ex:Ex G G') (p:HRep K G' so.drop H') (kp:∀ a C o,(a,Kd.mt C)∈so->so.drop.Nt a->H a=some o->H' a=some o) (f:∀ a C,(a,Kd.mt C)∈so->so.drop.Nt a->H a≠none->G a=none->G' a=none):HRep K G' so H':=by
  refine ⟨p.ex,fun a k e=>?_,h.ok,p.tp⟩
  by_cases c:∃ C,k=.mt C
  · obtain ⟨C,rfl⟩:=c
    have v:=h.vol a _ e
    have nt:=So.drop_nq (So.drop_mt h.ok e)
    obtain ⟨o,ho⟩:=Option.ne_none_iff_exists'.mp v.there
    exact v.keep ex (f a C e nt v.there v.g) (by rw [kp a C o e nt ho,ho])
  · exact p.vol a k (So.drop_in e fun C z=>c ⟨C,z⟩)
theorem PostHU.back (h:HRep K G so H) (p:PostHU K G so.drop H H' G'):PostH K G so H H' G':=by
  refine ⟨p.ex,⟨p.hrep.ex,fun a k e=>?_,h.ok,p.hrep.tp⟩,fun a o e s=>p.keep a o e (So.drop_nq s),fun a n g s=>p.frm a n g (So.drop_nt s)⟩
  by_cases c:∃ C,k=.mt C
  · obtain ⟨C,rfl⟩:=c
    have v:=h.vol a _ e
    have nt:=So.drop_nq (So.drop_mt h.ok e)
    exact v.keep p.ex (p.frm a v.there v.g nt) (aaU p.keep v.there nt)
  · exact p.hrep.vol a k (So.drop_in e fun C z=>c ⟨C,z⟩)
theorem PostU.h {v:V} {dv:DV} (p:PostU K G so H v H' G' dv):PostHU K G so H H' G':=⟨p.ex,p.hrep,p.keep,p.frm⟩
theorem PostU.back {v:V} {dv:DV} (h:HRep K G so H) (p:PostU K G so.drop H v H' G' dv) (ns:∀ o,dv≠.see o):PostV K G so H v H' G' dv:=by
  have b:=p.h.back h
  refine ⟨b.ex,b.hrep,b.keep,b.frm,?_,p.new,p.nob⟩
  have w:=p.val
  cases dv with
  | d x=>exact w
  | src=>obtain ⟨a,⟨c,e⟩,q⟩:=w;exact ⟨a,⟨c,So.drop_sub e⟩,q⟩
  | own o=>obtain ⟨a,q,g,s,k⟩:=w;exact ⟨a,q,g,h.there (p.new a o rfl q),k⟩
  | bor o=>exact absurd rfl (p.nob o)
  | see o=>exact absurd rfl (ns o)
  | mu _ _ _=>exact w
  | gh _ _=>exact w
end
theorem PostU.trans {K:PySem.W.Frag} {G H:Hp} {so:So} {v1 v2:V} {d1 d2:DV} {H1 H2 G1 G2:Hp} (a:PostU K G so H v1 H1 G1 d1) (b:PostU K G1 so H1 v2 H2 G2 d2):PostU K G so H v2 H2 G2 d2:=
  ⟨a.ex.trans b.ex,b.hrep,fun c o e s=>b.keep c o (a.keep c o e s) s,fun c n g s=>b.frm c (by rw [aaU a.keep n s];exact n) (a.frm c n g s) s,b.val,fun c o e q=>by
    cases z:H c with
    | none=>rfl
    | some u=>
      have n:=b.new c o e q
      by_cases s:so.Vol c
      · exact absurd n (a.hrep.vth s)
      · rw [a.keep c u z s] at n
        exact (nomatch n),b.nob⟩
theorem ahP {K:PySem.W.Frag} {sp:SpD} {vs:List V} {H:Hp} {Q:VK} {E:XK} (h:upSp K sp vs H Q E):∃ G so args QD ED,HRep K G so H/\VsOk K G so H vs args/\sp args QD ED/\(∀ v H' G' dv,PostU K G so H v H' G' dv->(∀ o,dv≠.see o)->QD dv->Q v H')/\
    (∀ cls d H' G' fs,PostHU K G so H H' G'->XdOk K G' H' d fs->ED cls fs->E cls d H'):=by
  obtain ⟨G,so,as,QD,ED,hrep,wv,q,hq,hx⟩:=h
  exact ⟨G,so.drop,as,QD,ED,hrep.drop,wv.drop,q,fun v H' G' dv p n z=>hq v H' G' dv (p.back hrep n) z,fun cls d H' G' fs p z1 z2=>hx cls d H' G' fs (p.back hrep) z1 z2⟩
structure FnG (P:Program) (w:World) (K:PySem.W.Frag) (mg:Str->Option Value) (base:Heap) (k:Nat) (f:Addr) (fd:FuncData) (ps:List Str) (sp:SpD):Prop where
  len:∀ args Q E,sp args Q E->args.length=ps.length
  run:∀ (A:Around) (outer:List Env) (s:Shared) (H:Hp) (args:Args) (us:List Value) (vs:List V) (Q:VK) (E:XK),Room k A->A.guards=some []->Env0 P w K mg base A outer s H->BindsTo s fd args (ps.zip us)->Vals vs us->upSp K sp vs H Q E->
    codeAny (model P w) A (.call (.ref f) args) (CR (L2N.CX P w) outer P w H s Q E) s
theorem FnG.mono {P:Program} {w:World} {K:PySem.W.Frag} {mg:Str->Option Value} {base:Heap} {j k:Nat} {f:Addr} {fd:FuncData} {ps:List Str} {sp:SpD} (F:FnG P w K mg base j f fd ps sp) (h:j<=k):FnG P w K mg base k f fd ps sp:=
  ⟨F.len,fun A outer s H args us vs Q E hr=>F.run A outer s H args us vs Q E (hr.mono h)⟩
def startD (N:List Str) (args:List DV):DSt:=args.map some++List.replicate (N.length - args.length) none
theorem VsOk.get {K:PySem.W.Frag} {G:Hp} {so:So} {H:Hp}:∀ {vs:List V} {ds:List DV} {i:Nat} {d:DV},VsOk K G so H vs ds->ds[i]?=some d->∃ v,vs[i]?=some v/\VOk K G so H v d/\∀ o,d≠.own o
  | _,_,_,_,.nil,e=>by simp at e
  | _,_,0,_,.cons h n _,e=>by simp at e;subst e;exact ⟨_,rfl,h,n⟩
  | _,_,i + 1,_,.cons _ _ t,e=>by
    obtain ⟨v,h1,h2⟩:=VsOk.get (i:=i) t (by simpa using e)
    exact ⟨v,by simpa using h1,h2⟩
theorem acq {N:List Str} {args:List DV} {i:Nat} {d:DV} (h:(startD N args)[i]?=some (some d)):args[i]?=some d:=by
  unfold startD at h
  by_cases hi:i < args.length
  · rw [List.getElem?_append_left (by simpa using hi),List.getElem?_map] at h
    cases e:args[i]? with
    | none=>rw [e] at h;cases h
    | some a=>rw [e] at h;cases h;rfl
  · rw [List.getElem?_append_right (by simpa using hi),List.getElem?_replicate] at h
    split at h<;>cases h
theorem agV {K:PySem.W.Frag} {G:Hp} {so:So} {H:Hp} {N:List Str} {vs:List V} {args:List DV} (h:HRep K G so H) (w:VsOk K G so H vs args) (ns:∀ (i:Nat) (o:OO),args[i]?≠some (.see o)):Rep K G so (L2.start N vs) H (startD N args):=by
  have lv:=w.length
  have no:∀ a,¬ Own (startD N args) (L2.start N vs) a:=fun a ⟨i,o,e,_⟩=>by
    obtain ⟨_,_,_,n⟩:=w.get (acq e)
    exact n o rfl
  refine ⟨h,by unfold startD L2.start;simp [lv],fun i d e=>?_,fun i j o o' a e1 _ _ _=>?_,fun i o a _ _=>no a,fun i o e=>ns i o (acq e)⟩
  · obtain ⟨v,e1,e2,_⟩:=w.get (acq e)
    refine ⟨v,?_,VOk.slot e2⟩
    unfold L2.start
    have hi:i < vs.length:=(List.getElem?_eq_some_iff.mp e1).1
    rw [List.getElem?_append_left (by simpa using hi),List.getElem?_map,e1];rfl
  · obtain ⟨_,_,_,n⟩:=w.get (acq e1)
    exact absurd rfl (n o)
def retQ (Q:DV->Prop):DV->Prop
  | .see _=>False
  | .bor _=>False
  | .mu _ _ _=>False
  | .gh _ _=>False
  | v=>Q v
theorem af6 {Q:DV->Prop} {v:DV} (h:retQ Q v):(∀ o,v≠.bor o)/\Q v:=by
  cases v with
  | d x=>exact ⟨fun _ z=>(nomatch z),h⟩
  | src=>exact ⟨fun _ z=>(nomatch z),h⟩
  | own o=>exact ⟨fun _ z=>(nomatch z),h⟩
  | bor o=>exact h.elim
  | see o=>exact h.elim
  | mu _ _ _=>exact h.elim
  | gh _ _=>exact h.elim
theorem ai6 {Q:DV->Prop} {v:DV} (h:retQ Q v):∀ o,v≠.see o:=by
  cases v with
  | see o=>exact h.elim
  | _=>exact fun _ z=>(nomatch z)
theorem aef {P:Program} {w:World} {K:PySem.W.Frag} {mg:Str->Option Value} {base:Heap} {x qual:Str} {params:Arguments} {body:List Stmt} {scope:Scope} {dvs:List V} {kws:List (Str × V)} {f:Addr} {fd:FuncData} {N ps:List Str} {k:Nat} {sp:SpD} {t:TDS}
    (F:FunD K x qual params body scope dvs kws f fd) (S:FnScope N ps scope) (len:∀ args Q E,sp args Q E->args.length=ps.length) (nsee:∀ args Q E,sp args Q E->∀ (i:Nat) (o:OO),args[i]?≠some (.see o))
    (hd:∀ (cdv:Value) (A:Around) (outer:List Env) (s:Shared) (H:Hp) (E:XK),Room k (A.deeper (envOfC qual scope s.heap.objs.size f cdv))->(cxOf (L2N.CX P w) P w K mg base N qual scope f cdv A outer s H E).A.guards=some []->
      DSs (cxOf (L2N.CX P w) P w K mg base N qual scope f cdv A outer s H E) (fun cls d _ H'=>E cls d H') body t)
    (hr:∀ args Q E,sp args Q E->t { nx:=fun _=>Q (.d .non),rt:=fun v _=>retQ Q v,bk:=fun _=>False,ct:=fun _=>False,xc:=fun cls fs _=>E cls fs } (startD N args)):FnG P w K mg base (k + 1) f fd ps sp:=by
  obtain ⟨oc,od,dV,kV,doc,pm,an,cdv,ct,osl,rfl,lk,hcd,_,_⟩:=F.ex
  refine ⟨len,fun A outer s H args us vs Q E hroom hg e0 hb r hsp=>?_⟩
  obtain ⟨G,so,as,QD,ED,hrep,wv,q,hq,hx⟩:=ahP hsp
  have hl:vs.length=ps.length:=wv.length.trans (len _ _ _ q)
  have KX:K.In s.heap:=e0.mod.kin.keeps fun b o e=>(e0.bs b o e).1
  have lim:s.heap.NoLimit:=e0.mod.nolimit.keeps fun b o e=>(e0.bs b o e).1
  have hkind:((ps.zip us).all fun y=>scope.names.lookup y.1 == some .local || scope.names.lookup y.1 == some .cell)=true:=by
    rw [List.all_eq_true]
    rintro ⟨n,u⟩ hy
    rcases S.par n (List.of_mem_zip hy).1 with z | z
    · show (scope.names.lookup n == some .local || _)=true
      rw [z];rfl
    · show (scope.names.lookup n == some .local || scope.names.lookup n == some .cell)=true
      rw [z];rfl
  refine Att.call_fn KX lim lk hcd hroom.depth hb hkind (fun s1 x=>?_) S.co S.gen S.kind
  have I:=inv_start (CX:=L2N.CX P w) (E:=E) S hroom.hd e0 hl r x
  have rep:Rep K G so (L2.start N vs) H (startD N as):=agV hrep wv (nsee _ _ _ q)
  have no:∀ a,¬ Own (startD N as) (L2.start N vs) a:=fun a ⟨i,o,e,_⟩=>by
    obtain ⟨_,_,_,n⟩:=wv.get (acq e)
    exact n o rfl
  have body:=(hd cdv A outer s H E (hroom.deeper _) hg).run [] s1 (L2.start N vs) H { nx:=fun _ H'=>Q .non H',rt:=Q } I ⟨G,so,startD N as,_,rep,hr as QD ED q,
    ⟨fun σ' H' G' sl' p z=>hq .non H' G' (.d .non) ⟨p.ex,p.rep.h,fun a o e sa=>p.keep a o e sa (no a),fun a n g sa=>p.frm a n g sa (no a),.non,fun _ _ e=>(nomatch e),fun _ e=>(nomatch e)⟩ (fun _ e=>(nomatch e)) z,
     fun _ _ _ _ _ z=>z.elim,fun _ _ _ _ _ z=>z.elim,
     fun v H' G' dv _ p z=>hq v H' G' dv ⟨p.ex,p.hrep,fun a o e sa=>p.keep a o e sa (no a),fun a n g sa=>p.frm a n g sa (no a),p.val,fun a o e e2=>(p.new a o e e2).elim (fun k=>k) fun k=>absurd k (no a),(af6 z).1⟩ (ai6 z) (af6 z).2,
     fun cls d σ' H' G' fs sl' p z1 z2=>hx cls d H' G' fs ⟨p.ex,p.rep.h,fun a o e sa=>p.keep a o e sa (no a),fun a n g sa=>p.frm a n g sa (no a)⟩ z1 z2⟩⟩
  refine wpAny_mono body (fun fl s' hs=>?_) fun e s' hs=>hs
  cases fl with
  | ret u=>
    obtain ⟨v,σ',H',J,rv,z⟩:=hs
    exact ⟨v,H',J.os,J.bare,J.base,J.hok,rv,z⟩
  | next=>
    obtain ⟨σ',H',J,z⟩:=hs
    exact ⟨.non,H',J.os,J.bare,J.base,J.hok,rfl,z⟩
  | brk=>
    obtain ⟨_,_,_,z⟩:=hs
    exact False.elim z
  | cont=>
    obtain ⟨_,_,_,z⟩:=hs
    exact False.elim z
inductive Sel where
  | pos (i:Nat) | kw (j:Nat) | dfl (v:V) (d:D)
def pickV (vs qs:List V):Sel->V
  | .pos i=>vs.getD i .non
  | .kw j=>qs.getD j .non
  | .dfl v _=>v
def pickD (vs qs:List DV):Sel->DV
  | .pos i=>vs.getD i (.d .non)
  | .kw j=>qs.getD j (.d .non)
  | .dfl _ d=>.d d
structure Bd (K:PySem.W.Frag) (fd:FuncData) (ps:List Str) (n:Nat) (ks:List Str) (sel:List Sel):Prop where
  to:∀ (s:Shared) (us ws:List Value) (vs qs:List V),K.In s.heap->us.length=n->ws.length=ks.length->Vals vs us->Vals qs ws->∃ zs,BindsTo s fd ⟨us,ks.zip ws⟩ (ps.zip zs)/\Vals (sel.map (pickV vs qs)) zs
  dok:∀ s∈sel,∀ (v:V) (d:D),s=.dfl v d->∀ G,DOk K G v d
theorem VsOk.getD {K:PySem.W.Frag} {G:Hp} {so:So} {H:Hp}:∀ {vs:List V} {ds:List DV} (i:Nat),VsOk K G so H vs ds->VOk K G so H (vs.getD i .non) (ds.getD i (.d .non))/\∀ o,ds.getD i (.d .non)≠.own o
  | _,_,_,.nil=>⟨.non,fun _ e=>(nomatch e)⟩
  | _,_,0,.cons h n _=>⟨h,n⟩
  | _,_,i + 1,.cons _ _ t=>VsOk.getD i t
theorem VsOk.pick {K:PySem.W.Frag} {G:Hp} {so:So} {H:Hp} {vs qs:List V} {ds es:List DV} (h:VsOk K G so H vs ds) (h2:VsOk K G so H qs es):∀ (sel:List Sel),(∀ s∈sel,∀ (v:V) (d:D),s=.dfl v d->∀ G,DOk K G v d)->VsOk K G so H (sel.map (pickV vs qs)) (sel.map (pickD ds es))
  | [],_=>.nil
  | .pos i::r,k=>.cons (h.getD i).1 (h.getD i).2 (VsOk.pick h h2 r fun s hs=>k s (List.mem_cons_of_mem _ hs))
  | .kw j::r,k=>.cons (h2.getD j).1 (h2.getD j).2 (VsOk.pick h h2 r fun s hs=>k s (List.mem_cons_of_mem _ hs))
  | .dfl v d::r,k=>.cons (k _ (List.mem_cons_self ..) v d rfl G) (fun _ e=>(nomatch e)) (VsOk.pick h h2 r fun s hs=>k s (List.mem_cons_of_mem _ hs))
def dCall (sp:SpD) (n m:Nat) (sel:List Sel) (ta tk:TDA):TD:=fun sl Q E=>ta sl (fun xs s1=>tk s1 (fun ys s2=>xs.length=n/\ys.length=m/\sp (sel.map (pickD xs ys)) (fun v=>Q v s2) fun cls fs=>E cls fs s2) E) E
def DK (X:Cx) (W:WX) (kws:List Keyword) (t:TDA):Prop:=PK X kws (upA X.K W t)
section
variable {X:Cx} {W:WX} {k n:Nat} {f:Addr} {fd:FuncData} {ps ks:List Str} {sp:SpD} {sel:List Sel} {x nm:Str} {p pos kpos:Pos} {e:Expr} {es:List Expr} {kws:List Keyword} {ta tk tk':TDA} {te:TD}
theorem ak0 {t t':TA} (h:PK X kws t) (g:∀ σ H R,t' σ H R->t σ H R):PK X kws t':=⟨fun pos pins s σ H Q I q=>h.run pos pins s σ H Q I (g _ _ _ q)⟩
theorem afN:DK X W [] dNil:=ak0 pk_nil fun σ H R ⟨G,so,sl,Q,E,rep,q,hq,_⟩=>hq [] H G [] sl (.refl rep) .nil q
theorem ad2 (ha:DE X W e te) (hr:DK X W kws tk):DK X W (⟨nm,e,kpos⟩::kws) (dCons te tk):=by
  refine ak0 (pk_cons ha hr) fun σ H R ⟨G,so,sl,Q,E,rep,q,hq,hx⟩=>?_
  refine ⟨G,so,sl,_,E,rep,q,fun x H1 G1 dx s1 p1 h1=>?_,hx⟩
  obtain ⟨G1',p1'⟩:=p1.pub
  refine ⟨G1',so,s1,_,E,p1'.rep,h1,fun vs H2 G2 ds s2 p2 w h2=>?_,hx.step p1'.toPost⟩
  exact hq (x::vs) H2 G2 (pubV dx::ds) s2 (p1'.toPost.trans p2) (.cons (p1'.over p2) (ahZ dx) w) h2
theorem alA {pins:List (Addr × Obj)} {σ:L2.St} {H G:Hp} {so:So} {sl:DSt} {s:Shared} {Q:VK} {us ws:List Value} {vs qs:List V} {ds es:List DV} {Q':DV->DSt->Prop} {E:XP} (F:FnG X.prog X.w X.K X.mg X.base k f fd ps sp) (hr:Room k X.A) (hg:X.A.guards=some []) (tk:L2N.Takes X W) (hb:Bd X.K fd ps n ks sel)
    (I:Inv X pins σ H s) (rep:Rep X.K G so σ H sl) (r:Vals vs us) (r2:Vals qs ws) (w:VsOk X.K G so H vs ds) (w2:VsOk X.K G so H qs es) (l1:ds.length=n) (l2:es.length=ks.length)
    (q:sp (sel.map (pickD ds es)) (fun v=>Q' v sl) fun cls fs=>E cls fs sl) (hq:∀ v H' G' dv sl',PostE X.K G so σ H sl v H' G' dv sl'->Q' dv sl'->Q v H') (hx:XOk X.K W G so σ H sl E) :
    wpAny (model X.prog X.w) X.A (call (.ref f) us (ks.zip ws)) (EP X pins σ Q) X.xe s:=by
  obtain ⟨zs,bt,rz⟩:=hb.to s us ws vs qs I.kIn (by rw [<- r.length,w.length,l1]) (by rw [<- r2.length,w2.length,l2]) r r2
  have pk:=w.pick w2 sel hb.dok
  refine wpAny_call (codeAny_mono (F.run X.A X.stack s H ⟨us,ks.zip ws⟩ zs (sel.map (pickV vs qs)) Q (fun cls d H'=>W cls d σ H') hr hg I.env0 bt rz ⟨G,so,_,_,_,rep.h,pk,q,fun v H' G' dv pv z=>hq v H' G' dv sl (pv.slots rep) z,fun cls d H' G' fs ph z1 z2=>?_⟩) fun r s' hz=>?_)
  · have pn:PostV X.K G so H .non H' G' (.d .non):=⟨ph.ex,ph.hrep,ph.keep,ph.frm,.non,fun _ _ e=>(nomatch e),fun _ e=>(nomatch e)⟩
    exact hx cls d H' G' fs sl (pn.slots rep).toPost z1 z2
  · cases r with
    | error e=>exact tk e s' (L2N.XE.of_call I (fun _ _ _ z=>z) hz)
    | ok fl=>
      cases fl with
      | ret u=>exact I.after hz
      | next=>exact False.elim hz
      | brk=>exact False.elim hz
      | cont=>exact False.elim hz
theorem aaf (F:FnG X.prog X.w X.K X.mg X.base k f fd ps sp) (hr:Room k X.A) (hgd:X.A.guards=some []) (tk:L2N.Takes X W) (hb:Bd X.K fd ps n [] sel) (hg:Gl X x) (hm:X.mg x=some (.ref f)) (hk:PySem.W.keepIn X.K (.ref f)=true)
    (ha:DA X W (e::es) ta) (hdb:(x == ("__debug__":Str))=false:=by decide) (he:starEach (e::es) X.env=(false,eval e X.env)::starEach es X.env:=by rfl) (hpl:(backTo pos (starEach es X.env)).any (·.1)=false:=by rfl) :
    DE X W (.Call (.Name x p) (e::es) [] pos) (dCall sp n 0 sel ta dNil):=by
  refine ⟨fun pins s σ H Q I ⟨G,so,sl,Q',E,rep,q,hq,hx⟩=>wpAny_Call_Name_kw (ld_glob I hg hm ?_ hdb)⟩
  refine PySem.W.callWith_K (h₀:=X.base) I.ok.mod.kin hk (thn (ha.run pos pins s σ H (fun vs H1=>∃ G1 ds s1,Post X.K G so σ H sl H1 G1 s1/\VsOk X.K G1 so H1 vs ds/\ds.length=n/\sp (sel.map (pickD ds [])) (fun v=>Q' v s1) fun cls fs=>E cls fs s1) I
    ⟨G,so,sl,_,E,rep,q,fun vs H1 G1 ds s1 p1 w z=>⟨G1,ds,s1,p1,w,z.1,z.2.2⟩,hx⟩) fun us s1 ⟨vs,H1,I1,r,G1,ds,sl1,p1,w,l1,z⟩=>⟨I1.kIn,?_⟩) he hpl
  exact alA (ws:=[]) (qs:=[]) (es:=[]) F hr hgd tk hb I1 p1.rep r .nil w .nil l1 rfl z (fun v H' G' dv sl' pe z'=>hq v H' G' dv sl' (p1.thenE pe) z') (hx.step p1)
end
section
variable {X:Cx} {W:WX} {x:Str} {p pos:Pos} {e:Expr} {es:List Expr} {ta:TDA} {id T:String} {r:List V->Hp->VK->Prop} {rd:List DV->(DV->Prop)->Prop}
theorem aam (hc:CallR X (.builtin id) r) (hr:CallSem X.K r rd) (hg:Gl X x) (hm:X.mg x=none) (hv:bootBuiltins x=some (.builtin id)) (ha:DA X W (e::es) ta) (hn:x≠"__name__":=by decide) (hdb:(x == ("__debug__":Str))=false:=by decide)
    (he:starEach (e::es) X.env=(false,eval e X.env)::starEach es X.env:=by rfl) (hpl:(backTo pos (starEach es X.env)).any (·.1)=false:=by rfl):DE X W (.Call (.Name x p) (e::es) [] pos) (dCB rd ta):=aa6 (pe_callB hc hg hm hv ha hn hdb he hpl) fun _ _ _ h=>alj hr h
theorem aeu (hc:CallR X (.type T) r) (hr:CallSem X.K r rd) (hg:Gl X x) (hm:X.mg x=none) (hv:bootBuiltins x=some (.type T)) (ha:DA X W (e::es) ta) (hn:x≠"__name__":=by decide) (hdb:(x == ("__debug__":Str))=false:=by decide)
    (he:starEach (e::es) X.env=(false,eval e X.env)::starEach es X.env:=by rfl) (hpl:(backTo pos (starEach es X.env)).any (·.1)=false:=by rfl):DE X W (.Call (.Name x p) (e::es) [] pos) (dCB rd ta):=aa6 (pe_callTy hc hg hm hv ha hn hdb he hpl) fun _ _ _ h=>alj hr h
theorem aii (hc:CallR X (.builtin id) r) (hr:CallSem X.K r rd) (hg:Gl X x) (hm:X.mg x=some (.builtin id)) (ha:DA X W (e::es) ta) (hdb:(x == ("__debug__":Str))=false:=by decide)
    (he:starEach (e::es) X.env=(false,eval e X.env)::starEach es X.env:=by rfl) (hpl:(backTo pos (starEach es X.env)).any (·.1)=false:=by rfl):DE X W (.Call (.Name x p) (e::es) [] pos) (dCB rd ta):=aa6 (pe_callBfun hc hg hm ha hdb he hpl) fun _ _ _ h=>alj hr h
theorem ahb {T:String} (hg:Gl X x) (hm:X.mg x=none) (hv:bootBuiltins x=some (.type T)) (hn:x≠"__name__":=by decide) (hdb:(x == ("__debug__":Str))=false:=by decide):DE X W (.Name x pos) (dC (.raw (.ty T))):=de_c (pe_bltn (v:=.ty T) hg hm hv rfl hn hdb) fun _=>.raw _
end
@[irreducible] def lenR:List DV->(DV->Prop)->Prop
  | [.d (.str z)],Q=>z.length<=szl/\Q (.d (.int z.length))
  | [.d (.tup ds)],Q=>Q (.d (.int ds.length))
  | [v],Q=>match v.items with
    | some ds=>Q (.d (.int ds.length))
    | none=>False
  | _,_=>False
@[irreducible] def intC:List DV->(DV->Prop)->Prop
  | [.d (.int i)],Q=>Q (.d (.int i))
  | _,_=>False
@[irreducible] def absR:List DV->(DV->Prop)->Prop
  | [.d (.int i)],Q=>Q (.d (.int (if i < 0 then -i else i)))
  | _,_=>False
@[irreducible] def listR:List DV->(DV->Prop)->Prop
  | [.d (.tup ds)],Q=>Q (.own (.lst ds))
  | [v],Q=>match v.items with
    | some ds=>Q (.own (.lst ds))
    | none=>False
  | _,_=>False
@[irreducible] def tupleR:List DV->(DV->Prop)->Prop
  | [.d (.tup ds)],Q=>Q (.d (.tup ds))
  | [v],Q=>match v.items with
    | some ds=>Q (.d (.tup ds))
    | none=>False
  | _,_=>False
def bools:List D->Option (List Bool)
  | []=>some []
  | .bl b::r=>(bools r).map (b::·)
  | _=>none
@[irreducible] def allR:List DV->(DV->Prop)->Prop
  | [v],Q=>match v.items with
    | some ds=>match bools ds with
      | some bs=>Q (.d (.bl (bs.all id)))
      | none=>False
    | none=>False
  | _,_=>False
@[irreducible] def gcdR:List DV->(DV->Prop)->Prop
  | [.d (.int i),.d (.int j)],Q=>Q (.d (.int (Int.gcd i j)))
  | _,_=>False
section
variable {K:PySem.W.Frag} {X:Cx}
def rLen1 (K:PySem.W.Frag):List V->Hp->VK->Prop:=fun xs H Q=>∃ x n,xs=[x]/\LenV K x H n/\Q (.int n) H
theorem abI:CallSem K (rLen1 K) lenR:=by
  intro G so H xs dxs Q R h w q k
  unfold lenR at q
  split at q
  · obtain ⟨v,rfl,w1,_⟩:=w.v1
    cases w1
    exact ⟨_,_,rfl,⟨by rw [<- aci];exact q.1,rfl⟩,k _ H G _ (.dat h (.int _)) q.2⟩
  · obtain ⟨v,rfl,w1,_⟩:=w.v1
    obtain ⟨a,vs,rfl,g1,a1⟩:=VOk.tup h w1
    exact ⟨_,_,rfl,.inr ⟨vs,g1,rfl⟩,k _ H G _ (.dat h (by rw [a1.length];exact .int _)) q⟩
  · obtain ⟨v,rfl,w1,_⟩:=w.v1
    split at q
    · rename_i e
      obtain ⟨a,vs,rfl,g1,a1⟩:=VOk.list h w1 e
      exact ⟨_,_,rfl,.inl ⟨vs,SqL.of g1,rfl⟩,k _ H G _ (.dat h (by rw [a1.length];exact .int _)) q⟩
    · exact q.elim
  · exact q.elim
theorem als:CallSem K (fun xs H Q=>(∃ i,xs=[.int i]/\Q (.int i) H)\/∃ k,xs=[.bl k]/\Q (.int (if k then 1 else 0)) H) intC:=by
  intro G so H xs dxs Q R h w q k
  unfold intC at q
  split at q
  · obtain ⟨v,rfl,w1,_⟩:=w.v1
    cases w1
    exact .inl ⟨_,rfl,k _ H G _ (.dat h (.int _)) q⟩
  · exact q.elim
theorem alw:CallSem K (fun xs H Q=>∃ i,xs=[.int i]/\Q (.int (if i < 0 then -i else i)) H) absR:=by
  intro G so H xs dxs Q R h w q k
  unfold absR at q
  split at q
  · obtain ⟨v,rfl,w1,_⟩:=w.v1
    cases w1
    exact ⟨_,rfl,k _ H G _ (.dat h (.int _)) q⟩
  · exact q.elim
theorem akd:CallSem K (fun xs H Q=>∃ p ys,xs=[.ref p]/\(SqL K H p ys\/SqT K H p ys)/\∀ l,H l=none->Q (.ref l) (upd H l (.lst ys))) listR:=by
  intro G so H xs dxs Q R h w q k
  unfold listR at q
  split at q
  · obtain ⟨v,rfl,w1,_⟩:=w.v1
    obtain ⟨a,vs,rfl,g1,a1⟩:=VOk.tup h w1
    exact ⟨a,vs,rfl,.inr g1,fun l n=>k _ _ G _ (.list h n a1) q⟩
  · obtain ⟨v,rfl,w1,_⟩:=w.v1
    split at q
    · rename_i e
      obtain ⟨a,vs,rfl,g1,a1⟩:=VOk.list h w1 e
      exact ⟨a,vs,rfl,.inl (SqL.of g1),fun l n=>k _ _ G _ (.list h n a1) q⟩
    · exact q.elim
  · exact q.elim
theorem agH:CallSem K (fun xs H Q=>∃ p ys,xs=[.ref p]/\((SqL K H p ys/\∀ l,H l=none->Q (.ref l) (upd H l (.tup ys)))\/(SqT K H p ys/\Q (.ref p) H))) tupleR:=by
  intro G so H xs dxs Q R h w q k
  unfold tupleR at q
  split at q
  · obtain ⟨v,rfl,w1,_⟩:=w.v1
    obtain ⟨a,vs,rfl,g1,a1⟩:=VOk.tup h w1
    exact ⟨a,vs,rfl,.inr ⟨g1,k _ _ G _ (.dat h w1) q⟩⟩
  · obtain ⟨v,rfl,w1,_⟩:=w.v1
    split at q
    · rename_i e
      obtain ⟨a,vs,rfl,g1,a1⟩:=VOk.list h w1 e
      exact ⟨a,vs,rfl,.inl ⟨SqL.of g1,fun l n=>k _ _ _ _ (.tuple h n a1) q⟩⟩
    · exact q.elim
  · exact q.elim
theorem agx {G:Hp}:∀ {vs:List V} {ds:List D} {bs:List Bool},DAll K G vs ds->bools ds=some bs->vs=bs.map V.bl
  | _,_,_,.nil,e=>by cases e;rfl
  | _,_,_,.cons (d:=.bl b) h t,e=>by
    unfold bools at e
    rename_i ds0
    cases z:bools ds0 with
    | none=>rw [z] at e;cases e
    | some ys=>rw [z] at e;cases e;cases h;rw [agx t z];rfl
  | _,_,_,.cons (d:=.non) h t,e=>by cases e
  | _,_,_,.cons (d:=.int _) h t,e=>by cases e
  | _,_,_,.cons (d:=.str _) h t,e=>by cases e
  | _,_,_,.cons (d:=.lst _) h t,e=>by cases e
  | _,_,_,.cons (d:=.tup _) h t,e=>by cases e
  | _,_,_,.cons (d:=.ins _ _) h t,e=>by cases e
  | _,_,_,.cons (d:=.raw _) h t,e=>by cases e
  | _,_,_,.cons (d:=.kt _) h t,e=>by cases e
theorem aiZ:CallSem K (rAll K) allR:=by
  intro G so H xs dxs Q R h w q k
  unfold allR at q
  split at q
  · obtain ⟨v,rfl,w1,_⟩:=w.v1
    split at q
    · rename_i e
      obtain ⟨a,vs,rfl,g1,a1⟩:=VOk.list h w1 e
      split at q
      · rename_i bs eb
        exact ⟨a,bs,rfl,by rw [<- agx a1 eb];exact SqL.of g1,k _ H G _ (.dat h (.bl _)) q⟩
      · exact q.elim
    · exact q.elim
  · exact q.elim
theorem aiY:CallSem K rGcd gcdR:=by
  intro G so H xs dxs Q R h w q k
  unfold gcdR at q
  split at q
  · obtain ⟨v,v',rfl,w1,w2,_⟩:=w.v2
    cases w1;cases w2
    exact ⟨_,_,rfl,k _ H G _ (.dat h (.int _)) q⟩
  · exact q.elim
def tyD:D->Option String
  | .non=>some "NoneType"
  | .bl _=>some "bool"
  | .int _=>some "int"
  | .str _=>some "str"
  | .lst _=>some "list"
  | .tup _=>some "tuple"
  | .kt _=>some "tuple"
  | _=>none
@[irreducible] def isiR:List DV->(DV->Prop)->Prop
  | [v,.d (.raw (.ty T))],Q=>match v.dat with
    | some d=>match tyD d with
      | some t=>match kitB t T with
        | some b=>Q (.d (.bl b))
        | none=>False
      | none=>False
    | none=>False
  | _,_=>False
theorem amF {G H:Hp} {so:So} {v:V} {dv:DV} {d:D} {t:String} (h:HRep K G so H) (w:VOk K G so H v dv) (e:dv.dat=some d) (q:tyD d=some t):TyX K H v (.type t):=by
  have own:∀ {a:Addr} {o:OO},OwnOk K G H a o->tyD (pubO o)=some t->TyX K H (.ref a) (.type t):=fun {a o} k q=>by
    cases o with
    | lst ds=>obtain ⟨vs,e1,_⟩:=k;cases q;exact .base (.lst e1)
    | ins x C fs=>cases q
    | dk _=>cases q
    | dt _=>cases q
  cases dv with
  | src=>cases e
  | mu _ _ _=>cases e
  | gh _ _=>cases e
  | own o=>cases e;obtain ⟨a,rfl,_,_,k⟩:=w;exact own k q
  | bor o=>
    cases e;obtain ⟨a,rfl,_,k⟩:=w
    cases o with
    | lst ds=>exact own (o:=.lst ds) k q
    | ins x C fs=>cases q
    | dk _=>cases q
    | dt _=>cases q
  | see o=>cases e;obtain ⟨a,rfl,_,k⟩:=w;exact own k q
  | d x=>
    cases e
    cases w with
    | non=>cases q;exact .base .non
    | bl b=>cases q;exact .base (.bl b)
    | int i=>cases q;exact .base (.int i)
    | str z=>cases q;exact .base (.str z)
    | lst g _=>cases q;exact .base (.lst (h.ex _ _ g))
    | tup g _=>
      cases q
      rcases g with (g | ⟨o,g⟩) | ⟨o,its,n,g,c,_⟩
      · exact .base (.tup (h.ex _ _ g))
      · exact .fTuple (h.ex _ _ g)
      · exact .kTuple g c
    | ins _ _ _=>cases q
    | dk _=>cases q
    | dt _=>cases q
    | any _=>cases q
    | raw _=>cases q
    | kt g=>cases q;exact .base (.tup (h.ex _ _ g))
theorem af1:CallSem K (rIsi K) isiR:=by
  intro G so H xs dxs Q R h w q k
  unfold isiR at q
  split at q
  · obtain ⟨v,v',rfl,w1,w2,_⟩:=w.v2
    cases w2
    split at q
    · rename_i d e
      split at q
      · rename_i t et
        split at q
        · rename_i b eb
          exact ⟨_,_,_,_,b,rfl,.ty _,amF h w1 e et,kit_ty eb,k _ H G _ (.dat h (.bl _)) q⟩
        · exact q.elim
      · exact q.elim
    · exact q.elim
  · exact q.elim
def flatD:D->Bool
  | .non=>true
  | .bl _=>true
  | .int _=>true
  | .str _=>true
  | _=>false
def eqF:D->D->Bool
  | .non,.non=>true
  | .bl a,.bl b=>a == b
  | .bl a,.int b=>(if a then 1 else 0) == b
  | .int a,.bl b=>a == (if b then 1 else 0)
  | .int a,.int b=>a == b
  | .str a,.str b=>a == b
  | _,_=>false
def inF (x:D) (ds:List D):Bool:=ds.any fun y=>eqF y x
@[irreducible] def inSeqR (neg:Bool):DV->DV->(DV->Prop)->Prop
  | .d x,.d (.tup ds),Q=>flatD x=true/\ds.all flatD=true/\Q (.d (.bl (if neg then !inF x ds else inF x ds)))
  | .d x,y,Q=>match y.items with
    | some ds=>flatD x=true/\ds.all flatD=true/\Q (.d (.bl (if neg then !inF x ds else inF x ds)))
    | none=>False
  | _,_,_=>False
@[irreducible] def inR (neg:Bool):DV->DV->(DV->Prop)->Prop
  | .d (.str w),.d (.str z),Q=>match w.cps.toList with
    | [c]=>Q (.d (.bl (if neg then !decide (c∈z.cps.toList) else decide (c∈z.cps.toList))))
    | _=>False
  | x,y,Q=>inSeqR neg x y Q
theorem ahH {G:Hp} {v:V} {d:D} (w:DOk K G v d) (f:flatD d=true):flatV v=true:=by
  cases w<;>first | rfl | (exact absurd f (by simp [flatD]))
theorem anj {G:Hp} {v u:V} {d e:D} (w:DOk K G v d) (w2:DOk K G u e) (f:flatD d=true) (f2:flatD e=true):eqV v u=eqF d e:=by
  cases w<;>cases w2<;>first | rfl | (exfalso;revert f f2;simp [flatD];done)
theorem agp {G:Hp}:∀ {vs:List V} {ds:List D},DAll K G vs ds->ds.all flatD=true->vs.all flatV=true
  | _,_,.nil,_=>rfl
  | _,_,.cons h t,f=>by
    rw [List.all_cons,Bool.and_eq_true] at f
    rw [List.all_cons,ahH h f.1,agp t f.2];rfl
theorem al9 {G:Hp} {v:V} {x:D} (w:DOk K G v x) (f:flatD x=true):∀ {vs:List V} {ds:List D},DAll K G vs ds->ds.all flatD=true->inV v vs=inF x ds
  | _,_,.nil,_=>rfl
  | _,_,.cons h t,g=>by
    rw [List.all_cons,Bool.and_eq_true] at g
    have ih:=al9 w f t g.2
    unfold inV inF at ih ⊢
    rw [List.any_cons,List.any_cons,anj h w g.1 f,ih]
theorem aiX (neg:Bool):OpSem K (rIn K neg) (inSeqR neg):=by
  intro G so H x y dx dy Q R h wx wy q k
  unfold inSeqR at q
  split at q
  · obtain ⟨a,vs,rfl,g1,a1⟩:=VOk.tup h wy
    exact ⟨a,vs,rfl,.inr g1,ahH wx q.1,agp a1 q.2.1,by rw [al9 wx q.1 a1 q.2.1];exact k _ H G _ (.dat h (.bl _)) q.2.2⟩
  · split at q
    · rename_i e
      obtain ⟨a,vs,rfl,g1,a1⟩:=VOk.list h wy e
      exact ⟨a,vs,rfl,.inl (SqL.of g1),ahH wx q.1,agp a1 q.2.1,by rw [al9 wx q.1 a1 q.2.1];exact k _ H G _ (.dat h (.bl _)) q.2.2⟩
    · exact q.elim
  · exact q.elim
def rInAll (K:PySem.W.Frag):R2:=fun x y H Q=>(∃ (c:Nat) (z:Str),x=.str ⟨#[c]⟩/\y=.str z/\Q (.bl (decide (c∈z.cps.toList))) H)\/rIn K false x y H Q
theorem ah0:OpR X (compareOp .In) (rInAll X.K):=OpR.or op_in_sign op_in_seq
theorem akq {w:Str} {c:Nat} (e:w.cps.toList=[c]):w=⟨#[c]⟩:=by
  obtain ⟨a⟩:=w
  have:a=#[c]:=by
    apply Array.toList_inj.mp
    exact e
  rw [this]
theorem akT:OpSem K (rInAll K) (inR false):=by
  intro G so H x y dx dy Q R h wx wy q k
  unfold inR at q
  split at q
  · split at q
    · rename_i c e
      cases wx;cases wy
      exact .inl ⟨c,_,by rw [akq e],rfl,k _ H G _ (.dat h (.bl _)) q⟩
    · exact q.elim
  · exact .inr (aiX false G so H x y dx dy Q R h wx wy q k)
@[irreducible] def ixR:DV->DV->(DV->Prop)->Prop
  | .d (.tup ds),.d (.int i),Q=>match atI ds i with
    | some d=>Q (.d d)
    | none=>False
  | .d (.str z),.d (.int i),Q=>z.length<=szl/\match atI z.cps.toList i with
    | some c=>Q (.d (.str ⟨#[c]⟩))
    | none=>False
  | v,.d (.int i),Q=>match v.items with
    | some ds=>match atI ds i with
      | some d=>Q (.d d)
      | none=>False
    | none=>False
  | _,_,_=>False
theorem alf {G:Hp} {vs:List V} {ds:List D} {i:Int} {d:D} (a:DAll K G vs ds) (e:atI ds i=some d):∃ v,atI vs i=some v/\DOk K G v d:=by
  unfold atI at e ⊢
  rw [a.length]
  cases z:ixN ds.length i with
  | none=>rw [z] at e;cases e
  | some j=>rw [z] at e;exact a.get e
theorem aag:OpSem K (rIx K) ixR:=by
  intro G so H x y dx dy Q R h wx wy q k
  unfold ixR at q
  split at q
  · split at q
    · rename_i e
      obtain ⟨a,vs,rfl,g1,a1⟩:=VOk.tup h wx
      cases wy
      obtain ⟨v,e1,e2⟩:=alf a1 e
      exact .inr (.inl ⟨a,vs,_,v,rfl,rfl,g1,e1,k _ H G _ (.dat h e2) q⟩)
    · exact q.elim
  · cases wx;cases wy
    obtain ⟨q1,q⟩:=q
    split at q
    · rename_i e
      exact .inr (.inr ⟨_,_,_,rfl,rfl,by rw [<- aci];exact q1,e,k _ H G _ (.dat h (.str _)) q⟩)
    · exact q.elim
  · split at q
    · rename_i e
      split at q
      · rename_i e0
        obtain ⟨a,vs,rfl,g1,a1⟩:=VOk.list h wx e
        cases wy
        obtain ⟨v,e1,e2⟩:=alf a1 e0
        exact .inl ⟨a,vs,_,v,rfl,rfl,SqL.of g1,e1,k _ H G _ (.dat h e2) q⟩
      · exact q.elim
    · exact q.elim
  · exact q.elim
end
abbrev TDO:=DSt->(Option Int->DSt->Prop)->XP->Prop
def cut {α:Type} (xs:List α) (lo hi:Option Int):List α:=(xs.drop (HT.sIx xs.length 0 lo)).take (HT.sIx xs.length xs.length hi - HT.sIx xs.length 0 lo)
section
variable {X:Cx} {W:WX} {e:Expr} {te:TD} {tl th:TDO} {pos p2:Pos} {lo hi:Option Expr} {K:PySem.W.Frag}
end
def strsD:List D->Option (List Str)
  | []=>some []
  | .str s::r=>(strsD r).map (s::·)
  | _=>none
theorem ahm {K:PySem.W.Frag} {G:Hp}:∀ {vs:List V} {ds:List D} {ss:List Str},DAll K G vs ds->strsD ds=some ss->vs=ss.map V.str
  | _,_,_,.nil,e=>by cases e;rfl
  | _,_,_,.cons (d:=.str b) h t,e=>by
    unfold strsD at e
    rename_i ds0
    cases z:strsD ds0 with
    | none=>rw [z] at e;cases e
    | some ys=>rw [z] at e;cases e;cases h;rw [ahm t z];rfl
  | _,_,_,.cons (d:=.non) h t,e=>by cases e
  | _,_,_,.cons (d:=.int _) h t,e=>by cases e
  | _,_,_,.cons (d:=.bl _) h t,e=>by cases e
  | _,_,_,.cons (d:=.lst _) h t,e=>by cases e
  | _,_,_,.cons (d:=.tup _) h t,e=>by cases e
  | _,_,_,.cons (d:=.ins _ _) h t,e=>by cases e
  | _,_,_,.cons (d:=.raw _) h t,e=>by cases e
  | _,_,_,.cons (d:=.kt _) h t,e=>by cases e
def seqD:DV->Option (List D)
  | .d (.tup ds)=>some ds
  | v=>v.items
@[irreducible] def joinR:DV->DV->(DV->Prop)->Prop
  | .d (.str a),y,Q=>match seqD y with
    | some ds=>match strsD ds with
      | some ss=>(ss.map (·.length)).sum + ss.length * a.length<=16777216/\Q (.d (.str (Txt.join a ss)))
      | none=>False
    | none=>False
  | _,_,_=>False
section
variable {X:Cx} {W:WX} {o e:Expr} {to te:TD} {apos pos:Pos}
theorem amm (ho:DE X W o to) (he:DE X W e te) (hs:starEach [e] X.env=[(false,eval e X.env)]:=by rfl) (hbase:attributeBase o "join" X.env (eval o X.env)=eval o X.env:=by rfl) (hline:(apos.endLine == pos.line)=true:=by rfl) :
    DE X W (.Call (.Attribute o "join" apos) [e] [] pos) (fun sl Q E=>to sl (fun x s1=>(∃ a,x=.d (.str a))/\te s1 (fun y s2=>joinR x y fun z=>Q z s2) E) E):=aa6 (pe_join ho he hs hbase hline) fun σ H R ⟨G,so,sl,Q,E,rep,q,hq,hx⟩=>by
  refine ⟨G,so,sl,_,E,rep,q,fun x H1 G1 dx s1 p1 ⟨⟨a,ea⟩,h1⟩=>⟨?_,?_⟩,hx⟩
  · have w:=p1.val
    rw [ea] at w
    cases w;exact ⟨a,rfl⟩
  · refine ⟨G1,so,s1,_,E,p1.rep,h1,fun y H2 G2 dy s2 p2 h2=>?_,hx.step p1.toPost⟩
    have w1:=p1.over p2.toPost
    have w2:=p2.val
    have fin:=fun (z:Str) (qz:Q (.d (.str z)) s2)=>hq _ H2 G2 _ s2 ((p1.toPost.trans p2.toPost).thenV (.dat p2.rep.h (.str z))) qz
    rw [ea] at w1 h2
    cases w1
    unfold joinR at h2
    change (match seqD dy with | some ds=>(match strsD ds with | some ss=>(ss.map (·.length)).sum + ss.length * a.length<=16777216/\Q (.d (.str (Txt.join a ss))) s2 | none=>False) | none=>False) at h2
    split at h2
    · rename_i ds ed
      split at h2
      · rename_i ss es
        unfold seqD at ed
        split at ed
        · cases ed
          obtain ⟨b,vs,rfl,g1,a1⟩:=VOk.tup p2.rep.h w2
          exact ⟨_,b,ss,rfl,rfl,.inr (by rw [<- ahm a1 es];exact g1),h2.1,fin _ h2.2⟩
        · obtain ⟨b,vs,rfl,g1,a1⟩:=VOk.list p2.rep.h w2 ed
          exact ⟨_,b,ss,rfl,rfl,.inl (by rw [<- ahm a1 es];exact SqL.of g1),h2.1,fin _ h2.2⟩
      · exact h2.elim
    · exact h2.elim
end
def rReprD (K:PySem.W.Frag):List V->Hp->VK->Prop:=fun xs H Q=>∃ (a:Addr) (d:PyData),xs=[.ref a]/\Dp K H (.ref a) d/\SeqAt.shaped d=true/\d.showable=true/\d.shown.length<=sizeLine/\Q (.str d.shown) H
theorem afP {X:Cx} (hg:X.A.guards=some []) (hu:X.A.units + 65 < cLine):CallR X (.builtin "repr") (rReprD X.K):=by
  intro pins s σ H xs us Q I r h
  obtain ⟨a,d,rfl,hd,hs,hw,hz,q⟩:=h
  obtain ⟨u,rfl,ru⟩:=vals1 r
  cases ru
  obtain ⟨as,rd⟩:=Dp.reads I d _ _ hd (show RelV (.ref a) (.ref a) from rfl)
  have dd:=SeqAt.depth_of_shaped hs
  exact repr_of_reads' rd hw (PyData.noDict_hsm (PyData.hasDict_of_canLay _ (SeqAt.canLay_of_shaped hs))) hg (by omega) (fun _ _ e=>e) (fun h' u tk hk=>⟨.str d.shown,H,I.kept hk,⟨_,rfl⟩,q⟩) hz
@[irreducible] def reprR:List DV->(DV->Prop)->Prop
  | [v],Q=>match v.dat with
    | some (.lst ds)=>match (D.lst ds).py with
      | some p=>SeqAt.shaped p=true/\p.showable=true/\p.shown.length<=szl/\Q (.d (.str p.shown))
      | none=>False
    | some (.tup ds)=>match (D.tup ds).py with
      | some p=>SeqAt.shaped p=true/\p.showable=true/\p.shown.length<=szl/\Q (.d (.str p.shown))
      | none=>False
    | _=>False
  | _,_=>False
theorem alc {K:PySem.W.Frag} {G H:Hp} {so:So} {v:V} {dv:DV} {d:D} (w:VOk K G so H v dv) (e:dv.dat=some d) (h:(∃ ds,d=.lst ds)\/∃ ds,d=.tup ds):∃ a,v=.ref a:=by
  cases dv with
  | src=>cases e
  | mu _ _ _=>cases e
  | gh _ _=>cases e
  | own o=>obtain ⟨a,q,_⟩:=w;exact ⟨a,q⟩
  | bor o=>obtain ⟨a,q,_⟩:=w;exact ⟨a,q⟩
  | see o=>obtain ⟨a,q,_⟩:=w;exact ⟨a,q⟩
  | d x=>
    cases e
    rcases h with ⟨ds,rfl⟩ | ⟨ds,rfl⟩
    · cases w;exact ⟨_,rfl⟩
    · cases w;exact ⟨_,rfl⟩
theorem ahV {K:PySem.W.Frag}:CallSem K (rReprD K) reprR:=by
  intro G so H xs dxs Q R h w q k
  unfold reprR at q
  split at q
  · obtain ⟨v,rfl,w1,_⟩:=w.v1
    split at q
    · rename_i ds e
      split at q
      · rename_i p ep
        obtain ⟨a,rfl⟩:=alc w1 e (.inl ⟨ds,rfl⟩)
        exact ⟨a,p,rfl,w1.dp h e ep,q.1,q.2.1,by rw [<- aci];exact q.2.2.1,k _ H G _ (.dat h (.str _)) q.2.2.2⟩
      · exact q.elim
    · rename_i ds e
      split at q
      · rename_i p ep
        obtain ⟨a,rfl⟩:=alc w1 e (.inr ⟨ds,rfl⟩)
        exact ⟨a,p,rfl,w1.dp h e ep,q.1,q.2.1,by rw [<- aci];exact q.2.2.1,k _ H G _ (.dat h (.str _)) q.2.2.2⟩
      · exact q.elim
    · exact q.elim
  · exact q.elim
structure FnR (P:Program) (w:World) (K:PySem.W.Frag) (mg:Str->Option Value) (base:Heap) (k:Nat) (f:Addr) (fd:FuncData) (ps:List Str) (sp:Sp):Prop where
  len:∀ vs H Q E,sp vs H Q E->vs.length=ps.length
  run:∀ (A:Around) (outer:List Env) (s:Shared) (H:Hp) (args:Args) (us:List Value) (vs:List V) (Q:VK) (E:XK),Room k A->A.guards=some []->Env0 P w K mg base A outer s H->BindsTo s fd args (ps.zip us)->Vals vs us->sp vs H Q E->
    codeAny (model P w) A (.call (.ref f) args) (CR (L2N.CX P w) outer P w H s Q E) s
theorem ajN {P:Program} {w:World} {K:PySem.W.Frag} {mg:Str->Option Value} {base:Heap} {x qual:Str} {params:Arguments} {body:List Stmt} {scope:Scope} {dvs:List V} {kws:List (Str × V)} {f:Addr} {fd:FuncData} {N ps:List Str} {k:Nat} {sp:Sp}
    (F:FunD K x qual params body scope dvs kws f fd) (S:FnScope N ps scope) (len:∀ vs H Q E,sp vs H Q E->vs.length=ps.length)
    (hd:∀ (cdv:Value) (A:Around) (outer:List Env) (s:Shared) (H:Hp) (vs:List V) (Q:VK) (E:XK),Room k (A.deeper (envOfC qual scope s.heap.objs.size f cdv))->(cxOf (L2N.CX P w) P w K mg base N qual scope f cdv A outer s H E).A.guards=some []->sp vs H Q E->
      ∃ t,PSs (cxOf (L2N.CX P w) P w K mg base N qual scope f cdv A outer s H E) body t/\t { nx:=fun _ H'=>Q .non H',rt:=Q } (L2.start N vs) H):FnR P w K mg base (k + 1) f fd ps sp:=by
  obtain ⟨oc,od,dV,kV,doc,pm,an,cdv,ct,osl,rfl,lk,hcd,_,_⟩:=F.ex
  refine ⟨len,fun A outer s H args us vs Q E hroom hg e0 hb r hsp=>?_⟩
  have KX:K.In s.heap:=e0.mod.kin.keeps fun b o e=>(e0.bs b o e).1
  have lim:s.heap.NoLimit:=e0.mod.nolimit.keeps fun b o e=>(e0.bs b o e).1
  have hkind:((ps.zip us).all fun y=>scope.names.lookup y.1 == some .local || scope.names.lookup y.1 == some .cell)=true:=by
    rw [List.all_eq_true]
    rintro ⟨n,u⟩ hy
    rcases S.par n (List.of_mem_zip hy).1 with z | z
    · show (scope.names.lookup n == some .local || _)=true
      rw [z];rfl
    · show (scope.names.lookup n == some .local || scope.names.lookup n == some .cell)=true
      rw [z];rfl
  refine Att.call_fn KX lim lk hcd hroom.depth hb hkind (fun s1 x=>?_) S.co S.gen S.kind
  have I:=inv_start (CX:=L2N.CX P w) (E:=E) S hroom.hd e0 (len _ _ _ _ hsp) r x
  obtain ⟨t,pt,qt⟩:=hd cdv A outer s H vs Q E (hroom.deeper _) hg hsp
  refine wpAny_mono (pt.run [] s1 (L2.start N vs) H _ I qt) (fun fl s' hs=>?_) fun e s' hs=>hs
  cases fl with
  | ret u=>
    obtain ⟨v,σ',H',J,rv,z⟩:=hs
    exact ⟨v,H',J.os,J.bare,J.base,J.hok,rv,z⟩
  | next=>
    obtain ⟨σ',H',J,z⟩:=hs
    exact ⟨.non,H',J.os,J.bare,J.base,J.hok,rfl,z⟩
  | brk=>obtain ⟨_,_,_,z⟩:=hs;exact False.elim z
  | cont=>obtain ⟨_,_,_,z⟩:=hs;exact False.elim z
theorem FnR.g {P:Program} {w:World} {K:PySem.W.Frag} {mg:Str->Option Value} {base:Heap} {k:Nat} {f:Addr} {fd:FuncData} {ps:List Str} {sp:SpD} (F:FnR P w K mg base k f fd ps (upSp K sp)) (len:∀ args Q E,sp args Q E->args.length=ps.length):FnG P w K mg base k f fd ps sp:=⟨len,F.run⟩
theorem akm {X:Cx} {k:Nat} {f:Addr} {fd:FuncData} {ps:List Str} {sp:Sp} {x:Str} {p pos:Pos} {e:Expr} {es:List Expr} {t:TA} (F:FnR X.prog X.w X.K X.mg X.base k f fd ps sp) (hr:Room k X.A) (hgd:X.A.guards=some []) (hg:Gl X x) (hm:X.mg x=some (.ref f)) (hk:PySem.W.keepIn X.K (.ref f)=true) (hb:Binds X.K fd ps [])
    (ha:PA X (e::es) t) (hdb:(x == ("__debug__":Str))=false:=by decide) (he:starEach (e::es) X.env=(false,eval e X.env)::starEach es X.env:=by rfl) (hpl:(backTo pos (starEach es X.env)).any (·.1)=false:=by rfl) :
    PE X (.Call (.Name x p) (e::es) [] pos) (fun σ H Q=>t σ H fun vs H1=>sp vs H1 Q E0):=by
  refine ⟨fun pins s σ H Q I h=>wpAny_Call_Name_kw (ld_glob I hg hm ?_ hdb)⟩
  refine PySem.W.callWith_K (h₀:=X.base) I.ok.mod.kin hk (thn (ha.run pos pins s σ H _ I h) fun us s1 ⟨vs,H1,I1,r,q⟩=>⟨I1.kIn,?_⟩) he hpl
  have hl:(us++[]).length=ps.length:=by rw [List.append_nil,<- r.length];exact F.len _ _ _ _ q
  have hb2:=hb s1 us I1.kIn hl
  rw [List.append_nil] at hb2
  refine wpAny_call (codeAny_mono (F.run X.A X.stack s1 H1 ⟨us,[]⟩ us vs Q E0 hr hgd I1.env0 hb2 r q) fun r s' hq=>?_)
  cases r with
  | error e=>
    obtain ⟨_,_,_,_,_,_,_,_,_,_,_,_,z⟩:=hq
    exact False.elim z
  | ok fl=>
    cases fl with
    | ret u=>exact I1.after hq
    | next=>exact False.elim hq
    | brk=>exact False.elim hq
    | cont=>exact False.elim hq
section
variable {P:Program} {w:World} {K:PySem.W.Frag} {mg mb:Str->Option Value}
def ama (K:PySem.W.Frag) (tb:List Addr) (a:Addr) (o:Obj) (xs:List V):Hp:=fun b=>if b∈tb then some (.tbl #[]) else if b=a/\K.lookup a=none then some (.frz o (.lst xs)) else none
theorem heap0_cases {tb:List Addr} {a b:Addr} {o:Obj} {xs:List V} {u:HO} (h:ama K tb a o xs b=some u):(b∈tb/\u=.tbl #[])\/(b∉tb/\b=a/\K.lookup a=none/\u=.frz o (.lst xs)):=by
  unfold ama at h
  by_cases q:b∈tb
  · rw [if_pos q] at h;cases h;exact .inl ⟨q,rfl⟩
  · rw [if_neg q] at h
    by_cases z:b=a/\K.lookup a=none
    · rw [if_pos z] at h;cases h;exact .inr ⟨q,z.1,z.2,rfl⟩
    · rw [if_neg z] at h;cases h
theorem ajz {k:Nat} {fa a:Addr} {cs:List (Addr × Addr)} {fd:FuncData} {x:Str} {sp:Sp} {s1:Shared} {vs:List Value} {ns:List Int}
    (KX:K.In s1.heap) (hns:s1.heap.Ns mainGlobals mg) (hb:s1.heap.Ns builtinsNs mb) (hbb:∀ x:Str,x≠"__name__"->mb x=bootBuiltins x) (hlim:s1.heap.NoLimit) (hg:s1.gens=#[])
    (tE:∀ q∈cs,s1.heap.get? q.2=some { cls:=.none,data:=.fields #[] }) (tN:∀ q∈cs,K.lookup q.2=none) (tC:∀ q∈cs,PySem.W.CodeHd s1.heap q.1 q.2)
    (bmn:∃ (bm:Addr) (ob:Obj),mg "__builtins__"=some (.ref bm)/\bm≠builtinsNs/\s1.heap.get? bm=some ob/\ob.cls=.type "module"/\ob.dict=some builtinsNs/\ob.data=.plain)
    (ha:s1.heap.get? a=some { cls:=.type "list",data:=.seq vs.toArray }) (hi:IntsAre vs ns) (hl:ns.length<=sizeLine) (hr:Room k callerA)
    (F:∀ base:Heap,K.In base->base.Ns mainGlobals mg->(∀ q∈cs,LamX.TabB base mg q.1 q.2)->FnR P w K mg base k fa fd [x] sp) (hbind:∀ (s:Shared) (u:Value),BindsTo s fd ⟨[u],[]⟩ [(x,u)])
    (hsp:∀ H:Hp,(∀ q∈cs,H q.2=some (.tbl #[]))->SqL K H a (ns.map V.int)->sp [.ref a] H (fun v _=>v=.bl true) fun _ _ _=>False) :
    codeAny (model P w) callerA (.call (.ref fa) ⟨[.ref a],[]⟩) (fun r s'=>r=.ok (.ret (.bool true))/\OldK s1.heap s'.heap/\s'.os=s1.os/\AllBare s'.gens) s1:=by
  have rv:=vals_ints hi
  let O:Obj:={ cls:=.type "list",data:=.seq vs.toArray }
  let H:=ama K (cs.map Prod.snd) a O (ns.map V.int)
  have tb:∀ b∈cs.map Prod.snd,s1.heap.get? b=some { cls:=.none,data:=.fields #[] }:=fun b hm=>by
    obtain ⟨q,hq,rfl⟩:=List.mem_map.mp hm
    exact tE q hq
  have na:a∉cs.map Prod.snd:=fun z=>by
    have y:=ha.symm.trans (tb a z)
    cases y
  have inT:∀ b∈cs.map Prod.snd,H b=some (.tbl #[]):=fun b hm=>if_pos hm
  have hok:HOk P w H s1.heap:=fun b u e=>by
    rcases heap0_cases e with ⟨hm,rfl⟩ | ⟨_,rfl,_,rfl⟩
    · exact tb b hm
    · exact ⟨ha,by rw [List.length_map];exact hl,vs,_,rv,ha⟩
  have hS:SqL K H a (ns.map V.int):=by
    cases hk:K.lookup a with
    | none=>exact .inl (.inr ⟨O,(if_neg na).trans (if_pos ⟨rfl,hk⟩)⟩)
    | some o=>
      have e:=KX a o hk
      rw [ha] at e;cases e
      refine .inr ⟨_,vs.toArray,_,hk,rfl,rfl,rfl,?_,by simpa using rv⟩
      rw [List.size_toArray,hi.length];exact hl
  have free:∀ {b:Addr} {o:Obj},s1.heap.get? b=some o->(∀ xs n,o.data≠.seq xs n)->o.data≠.fields #[]->H b=none:=fun {b o} e n1 n2=>by
    cases q:H b with
    | none=>rfl
    | some u=>
      rcases heap0_cases q with ⟨hm,_⟩ | ⟨_,rfl,_,_⟩
      · have y:=(tb b hm).symm.trans e
        cases y;exact absurd rfl n2
      · have y:=ha.symm.trans e
        cases y;exact absurd rfl (n1 _ _)
  have lay:∀ {b:Addr} {o:Obj},s1.heap.get? b=some o->H b=none->(hidT s1.heap H).get? b=some o:=fun e n=>hidT_get e n
  have plain:∀ {b:Addr} {m:Str->Option Value},s1.heap.Ns b m->(hidT s1.heap H).Ns b m:=fun {b m} ⟨o,es,ep,e,d,r⟩=>
    ⟨o,es,ep,lay e (free e (fun xs n z=>by rw [d] at z;cases z) fun z=>by rw [d] at z;cases z),d,r⟩
  have hKb:K.In (hidT s1.heap H):=fun b o e=>lay (KX b o e) (by
    cases q:H b with
    | none=>rfl
    | some u=>
      rcases heap0_cases q with ⟨hm,_⟩ | ⟨_,rfl,z,_⟩
      · obtain ⟨y,hy,rfl⟩:=List.mem_map.mp hm
        rw [tN y hy] at e;cases e
      · rw [z] at e;cases e)
  have TB:∀ q∈cs,LamX.TabB (hidT s1.heap H) mg q.1 q.2:=fun q hq=>by
    refine ⟨?_,?_,fun z=>?_⟩
    · obtain ⟨o,us,f1,f2,f3,f4,f5,f6,f7,e1,r1,r2,r3,rest⟩:=tC q hq
      refine ⟨o,us,f1,f2,f3,f4,f5,f6,f7,lay e1 (free e1 (fun xs n z=>?_) fun z=>?_),r1,r2,r3,rest⟩
      · rw [r2] at z;cases z
      · rw [r2] at z;cases z;simp at r3
    · obtain ⟨bm,ob,b1,b2,b3,b4,b5,b6⟩:=bmn
      refine ⟨bm,ob,b1,b2,fun z=>?_,fun z=>?_,lay b3 (free b3 (fun xs n z=>?_) fun z=>?_),b4,b5,b6⟩
      · obtain ⟨o,es,ep,e,hd,_⟩:=hns
        subst z
        have y:=e.symm.trans b3
        cases y
        rw [hd] at b6;cases b6
      · subst z
        have y:=(tE q hq).symm.trans b3
        cases y
        cases b6
      · rw [b6] at z;cases z
      · rw [b6] at z;cases z
    · obtain ⟨o,es,ep,e,hd,_⟩:=hns
      rw [z] at e
      have y:=(tE q hq).symm.trans e
      cases y
      cases hd
  have e0:Env0 P w K mg (hidT s1.heap H) callerA [] s1 H:=by
    refine ⟨rfl,⟨hKb,plain hns,⟨mb,plain hb,hbb⟩,?_⟩,fun b o e=>of_hidT e,Nat.le_of_eq (hidT_size _ _),trivial,fun b z=>absurd (show b∈([]:List Addr) from z) (by simp),hok,.of_eq hg⟩
    obtain ⟨mc,h1,h2⟩:=hlim
    exact ⟨mc,plain h1,h2⟩
  refine codeAny_mono ((F _ hKb (plain hns) TB).run callerA [] s1 H ⟨[.ref a],[]⟩ [.ref a] [.ref a] _ _ hr rfl e0 (hbind s1 (.ref a)) (.cons rfl .nil) (hsp H (fun q hq=>inT _ (List.mem_map.mpr ⟨q,hq,rfl⟩)) hS)) fun r s' h=>?_
  cases r with
  | error e=>
    obtain ⟨_,_,_,_,_,_,_,_,_,_,_,_,z⟩:=h
    exact z.elim
  | ok fl=>
    cases fl with
    | next=>exact False.elim h
    | brk=>exact False.elim h
    | cont=>exact False.elim h
    | ret u=>
      obtain ⟨v,H',os,bare,un,hok',r',q⟩:=h
      obtain rfl:v=.bl true:=q
      obtain rfl:u=Value.bool true:=r'
      have stay:∀ b o,b∉cs.map Prod.snd->s1.heap.get? b=some o->s'.heap.get? b=some o:=fun b o nb e=>by
        cases q:H b with
        | none=>exact un.keep b o e q (fun y=>absurd (show b∈([]:List Addr) from y) (by simp)) (by simp)
        | some u=>
          rcases heap0_cases q with ⟨hm,_⟩ | ⟨_,_,_,rfl⟩
          · exact absurd hm nb
          · obtain ⟨e1,_⟩:=hok b _ q
            obtain ⟨e2,_⟩:=hok' b _ (un.frzs b O _ q)
            rw [e] at e1;cases e1
            exact e2
      have grown:∀ q∈cs,∃ more:Array Value,s'.heap.get? q.2=some { cls:=.none,data:=.fields more }:=fun q hq=>by
        obtain ⟨more,z⟩:=un.tbls q.2 #[] (inT _ (List.mem_map.mpr ⟨q,hq,rfl⟩))
        exact ⟨_,hok' q.2 _ z⟩
      refine ⟨rfl,⟨fun b o e=>?_,fun b o e=>?_⟩,os,bare⟩
      · by_cases hm:b∈cs.map Prod.snd
        · obtain ⟨q,hq,rfl⟩:=List.mem_map.mp hm
          obtain ⟨more,hmo⟩:=grown q hq
          have y:=(tE q hq).symm.trans e
          cases y
          exact .inr (.inl ⟨((tC q hq).tab (tE q hq)).isCodeTable,rfl,#[],more,rfl,by rw [Array.empty_append];exact hmo⟩)
        · exact .inl (stay b o hm e)
      · by_cases hm:b∈cs.map Prod.snd
        · obtain ⟨q,hq,rfl⟩:=List.mem_map.mp hm
          obtain ⟨more,hmo⟩:=grown q hq
          exact ⟨_,hmo⟩
        · exact ⟨o,stay b o hm e⟩
end
def spSource (K:PySem.W.Frag):Sp:=fun vs H Q _=>∃ (a:Addr) (ns:List Int),vs=[.ref a]/\SqL K H a (ns.map V.int)/\ns.length<=63/\
  ∀ (H':Hp) (p c:Addr) (ms:List Int) (sd:Int),Ex H H'->c≠p->H' p=some (.lst [.ref c,.int 0,.int 0,.int sd,.int 0])->H' c=some (.lst (ms.map V.int))->ms.length<=63->0<=sd->sd < 4294967296->Q (.ref p) H'
def spDraw:SpD:=fun args Q _=>∃ m:Int,args=[.src,.d (.int m)]/\0 < m/\m < 2 ^ 64/\∀ n:Int,0<=n->n < m->Q (.d (.int n))
def spOf:SpD:=fun args Q _=>∃ x:DV,args=[.src,x]/\(∀ o,x≠.see o)/\match x with
  | .d (.str z)=>0 < z.length/\z.length<=szl/\∀ c∈z.cps.toList,Q (.d (.str ⟨#[c]⟩))
  | .d (.tup ds)=>0 < ds.length/\ds.length<=szl/\∀ d∈ds,Q (.d d)
  | x=>match x.items with
    | some ds=>0 < ds.length/\ds.length<=szl/\∀ d∈ds,Q (.d d)
    | none=>False
structure Shows (d:D) (p:PyData):Prop where
  py:d.py=some p
  seq:(∃ ds,d=.lst ds)\/∃ ds,d=.tup ds
  sh:SeqAt.shaped p=true
  sw:p.showable=true
  ln:p.shown.length<=szl
def spSame:SpD:=fun args Q _=>∃ (d e:D) (p q:PyData),args=[.d d,.d e]/\Shows d p/\Shows e q/\Q (.d (.bl (decide (p.shown=q.shown))))
theorem agR {Q:DV->Prop} {E:XE'} {d:D} {p:PyData} (h:Shows d p) (q:Q (.d (.bl true))):spSame [.d d,.d d] Q E:=⟨d,d,p,p,rfl,h,h,by rw [decide_eq_true rfl];exact q⟩
theorem akU {k:Nat} {A:Around} (hr:Room k A):A.units + 65 < cLine:=by have:=hr.un;omega
theorem ai7 {d:D} {p:PyData} {Q:DV->Prop} (s:Shows d p) (q:Q (.d (.str p.shown))):reprR [.d d] Q:=by
  unfold reprR
  rcases s.seq with ⟨ds,rfl⟩ | ⟨ds,rfl⟩
  · show (match (D.lst ds).py with | some p=>SeqAt.shaped p=true/\p.showable=true/\p.shown.length<=szl/\Q (.d (.str p.shown)) | none=>False)
    rw [s.py]
    exact ⟨s.sh,s.sw,s.ln,q⟩
  · show (match (D.tup ds).py with | some p=>SeqAt.shaped p=true/\p.showable=true/\p.shown.length<=szl/\Q (.d (.str p.shown)) | none=>False)
    rw [s.py]
    exact ⟨s.sh,s.sw,s.ln,q⟩
def LamUq (K:PySem.W.Frag):Prop:=∀ q∈lamFns K,∀ q'∈lamFns K,q.2.1=q'.2.1->q.2.2=q'.2.2
def spLaw (K:PySem.W.Frag):Sp:=fun vs H Q _=>∃ (a:Addr) (ns:List Int),vs=[.ref a]/\SqL K H a (ns.map V.int)/\ns.length<=63/\(∀ q∈lamFns K,H q.2.1=some (.tbl #[]))/\LamUq K/\∀ H',Q (.bl true) H'
abbrev lawEnds:EndsD:={ nx:=fun _=>False,rt:=fun v _=>v=.d (.bl true),bk:=fun _=>False,ct:=fun _=>False,xc:=fun _ _ _=>False }
theorem am1 {K:PySem.W.Frag} {W:WX} {t:TDS} {D:Ends} {σ:L2.St} {H:Hp} {p c:Addr} {ms:List Int} {sd:Int} (n i:Nat) (hl:σ.length=n) (hi:σ[i]?=some (some (.ref p))) (hD:∀ H',D.rt (.bl true) H')
    (cp:c≠p) (hp:H p=some (.lst [.ref c,.int 0,.int 0,.int sd,.int 0])) (hc:H c=some (.lst (ms.map V.int))) (hm:ms.length<=63) (h0:0<=sd) (h1:sd < 4294967296) (ht:∀ q∈lamFns K,H q.2.1=some (.tbl #[])) (hu:LamUq K)
    (h:t lawEnds ((List.replicate n none).set i (some .src))):upS K W t D σ H:=by
  have gP:tpUp (fun b=>if b=c then H c else none) H p=none:=by
    unfold tpUp;rw [hp];exact if_neg (Ne.symm cp)
  have gC:tpUp (fun b=>if b=c then H c else none) H c=some (.lst (ms.map V.int)):=by
    unfold tpUp;rw [hc];simp
  refine ⟨tpUp (fun b=>if b=c then H c else none) H,(p,.src c)::(lamFns K).map fun q=>(q.2.1,.tab q.2.2),_,lawEnds,?_,h,⟨fun _ _ _ _ _ z=>z.elim,fun _ _ _ _ _ z=>z.elim,fun _ _ _ _ _ z=>z.elim,fun v H' G' dv _ pr z=>?_,fun _ _ _ _ _ _ _ _ _ z=>z.elim⟩⟩
  · have sl:∀ (j:Nat) (dv:DV),((List.replicate n none).set i (some DV.src))[j]?=some (some dv)->j=i/\dv=.src:=fun j dv e=>by
      rcases get_set e with ⟨z,e2⟩ | ⟨ne,e2⟩
      · exact ⟨z,Option.some.inj e2⟩
      · rw [List.getElem?_replicate] at e2
        split at e2<;>cases e2
    refine ⟨⟨fun b o e=>?_,fun b k e=>?_,⟨fun q hq=>List.mem_cons_of_mem _ (List.mem_map.mpr ⟨q,hq,rfl⟩),fun b k k' e e'=>?_⟩,fun b xs q=>by unfold tpUp;rw [q]⟩,by simp [hl],fun j dv e=>?_,fun j k o o' b e1 _ _ _=>?_,fun j o b e1 _ _=>?_,fun j o e=>?_⟩
    · unfold tpUp at e
      split at e
      · rename_i xs z;cases e;exact z
      · replace e:(if b=c then H c else none)=some o:=e
        by_cases q:b=c
        · subst q;rw [if_pos rfl] at e;exact e
        · rw [if_neg q] at e;cases e
    · rcases List.mem_cons.mp e with e | e
      · cases e
        exact ⟨gP,ms,0,0,sd,0,hp,SqL.of gC,hm,by omega,by omega,h0,h1⟩
      · obtain ⟨q,hq,e⟩:=List.mem_map.mp e
        cases e
        have hne:q.2.1≠c:=fun z=>by
          have y:=ht q hq
          rw [z,hc] at y;cases y
        exact ⟨by unfold tpUp;rw [ht q hq];exact if_neg hne,#[],ht q hq,True.intro,fun pos cv hcv=>(by have z:codeAmong pos []=some cv:=hcv;simp [codeAmong] at z)⟩
    · have np:∀ q∈lamFns K,q.2.1≠p:=fun q hq z=>by
        have y:=ht q hq
        rw [z,hp] at y;cases y
      rcases List.mem_cons.mp e with e | e<;>rcases List.mem_cons.mp e' with e' | e'
      · cases e;cases e';rfl
      · obtain ⟨q,hq,e'⟩:=List.mem_map.mp e'
        cases e;cases e'
        exact absurd rfl (np q hq)
      · obtain ⟨q,hq,e⟩:=List.mem_map.mp e
        cases e;cases e'
        exact absurd rfl (np q hq)
      · obtain ⟨q,hq,e⟩:=List.mem_map.mp e
        obtain ⟨q',hq',e'⟩:=List.mem_map.mp e'
        cases e
        injection e' with e1 e2
        rw [<- e2,hu q hq q' hq' e1.symm]
    · obtain ⟨rfl,rfl⟩:=sl j dv e
      exact ⟨_,hi,p,⟨c,List.mem_cons_self ..⟩,rfl⟩
    · exact (nomatch (sl j _ e1).2)
    · exact (nomatch (sl j _ e1).2)
    · exact (nomatch (sl j _ e).2)
  · have w:=pr.val
    rw [z] at w
    cases w
    exact hD H'
theorem aic {g:TDG} {tb:TDS} {E:EndsD} (I:DSt->Prop):∀ (ds:List D) (sl:DSt),I sl->(∀ (N:DSt->Prop) (d:D) (s:DSt),(∀ s',I s'->N s')->d∈ds->I s->g d s fun s1=>tb { nx:=N,ct:=N,bk:=E.nx,rt:=E.rt,xc:=E.xc } s1)->(∀ s,I s->E.nx s)->dForL g tb E ds sl
  | [],sl,h,_,fin=>by rw [adP];exact fin sl h
  | d::r,sl,h,step,fin=>by
    rw [adg]
    exact step _ d sl (fun s' i=>aic I r s' i (fun N e s k m=>step N e s k (List.mem_cons_of_mem _ m)) fin) (List.mem_cons_self ..) h
theorem adQ {g:TDG} {tb:TDS} {E:EndsD} (I:List D->DSt->Prop) (step:∀ (N:DSt->Prop) (d:D) (r:List D) (s:DSt),(∀ s',I r s'->N s')->I (d::r) s->g d s fun s1=>tb { nx:=N,ct:=N,bk:=E.nx,rt:=E.rt,xc:=E.xc } s1) (fin:∀ s,I [] s->E.nx s):∀ (ds:List D) (sl:DSt),I ds sl->dForL g tb E ds sl
  | [],sl,h=>by rw [adP];exact fin sl h
  | d::r,sl,h=>by
    rw [adg]
    exact step _ d r sl (fun s' i=>adQ I step fin r s' i) h
def GlobD (K:PySem.W.Frag) (mg:Str->Option Value) (x:Str) (d:D):Prop:=∃ v u,mg x=some u/\RelV v u/\∀ G,DOk K G v d
theorem adR {X:Cx} {W:WX} {x:Str} {d:D} {pos:Pos} (hg:Gl X x) (h:GlobD X.K X.mg x d) (hdb:(x == ("__debug__":Str))=false:=by decide):DE X W (.Name x pos) (dC d):=by
  obtain ⟨v,u,h1,h2,h3⟩:=h
  exact de_c (pe_glob hg h1 h2 hdb) h3
theorem ab4 {K:PySem.W.Frag} {x qual:Str} {params:Arguments} {body:List Stmt} {scope:Scope} {kws:List (Str × V)} {f:Addr} {fd:FuncData} {ps ks:List Str} {n:Nat} {sel:List Sel} (F:FunD K x qual params body scope [] kws f fd) (g:List Value->List Value->List Value)
    (h:∀ (kV doc pm:Value) (an:Option Addr) (cdv ct:Value) (us ws:List Value),us.length=n->ws.length=ks.length->bindArgs (PySem.W.fnOf x qual params body scope .none kV doc pm an cdv ct) ⟨us,ks.zip ws⟩=pure (ps.zip (g us ws)))
    (hv:∀ (vs qs:List V) (us ws:List Value),us.length=n->ws.length=ks.length->Vals vs us->Vals qs ws->Vals (sel.map (pickV vs qs)) (g us ws)) (hs:∀ s∈sel,∀ (v:V) (d:D),s=.dfl v d->∀ G,DOk K G v d):Bd K fd ps n ks sel:=by
  obtain ⟨oc,od,dV,kV,doc,pm,an,cdv,ct,osl,rfl,lk,hcd,hD,hK⟩:=F.ex
  rcases hD with ⟨_,rfl⟩ | ⟨e,_⟩
  · exact ⟨fun s us ws vs qs _ l1 l2 r1 r2=>⟨g us ws,.of_eq (h kV doc pm an cdv ct us ws l1 l2),hv vs qs us ws l1 l2 r1 r2⟩,hs⟩
  · exact absurd rfl e
theorem and {x:DV} {d:D} {t T:String} {b:Bool} {Q:DV->Prop} (hx:x.dat=some d) (ht:tyD d=some t) (hk:kitB t T=some b) (q:Q (.d (.bl b))):isiR [x,.d (.raw (.ty T))] Q:=by
  unfold isiR
  show (match x.dat with | some d=>(match tyD d with | some t=>(match kitB t T with | some b=>Q (.d (.bl b)) | none=>False) | none=>False) | none=>False)
  rw [hx]
  show (match tyD d with | some t=>(match kitB t T with | some b=>Q (.d (.bl b)) | none=>False) | none=>False)
  rw [ht]
  show (match kitB t T with | some b=>Q (.d (.bl b)) | none=>False)
  rw [hk]
  exact q
section
variable {Q:DV->Prop} {i j:Int} {a b z:Str} {ds es:List D} {d e:D} {v w:DV}
theorem afL (q:Q (.d (.int (i + j)))):addR (.d (.int i)) (.d (.int j)) Q:=by unfold addR;exact q
theorem ak6 (hv:v.items=some ds) (hw:w.items=some es) (h:ds.length + es.length<=szl) (q:Q (.own (.lst (ds++es)))):addR v w Q:=by
  unfold addR
  split
  · cases hv
  · cases hv
  · cases hv
  · rw [hv,hw];exact ⟨h,q⟩
theorem acj {f:Int->Int->D} (q:Q (.d (f i j))):ajH f (.d (.int i)) (.d (.int j)) Q:=by unfold ajH;exact q
theorem afJ {C:Int->Int->Prop} {f:Int->Int->D} (h:C i j) (q:Q (.d (f i j))):intR C f (.d (.int i)) (.d (.int j)) Q:=by unfold intR;exact ⟨h,q⟩
theorem akx (q:Q (.d (.int (-i)))):negR (.d (.int i)) Q:=by unfold negR;exact q
theorem aen {n:Bool} (q:Q (.d (.bl (if n then !decide (i=j) else decide (i=j))))):eqR n (.d (.int i)) (.d (.int j)) Q:=by unfold eqR;exact q
theorem am7 {n:Bool} (q:Q (.d (.bl (if n then !decide (a=b) else decide (a=b))))):eqR n (.d (.str a)) (.d (.str b)) Q:=by unfold eqR;exact q
theorem am8 {n:Bool} {p p':PyData} (hv:v.dat=some d) (hw:w.dat=some e) (h1:d.py=some p) (h2:e.py=some p') (s1:SeqAt.shaped p=true) (s2:SeqAt.shaped p'=true) (hn:(∃ x,p=.list x)\/(∃ x,p=.tuple x)\/p=.none) (q:Q (.d (.bl (if n then !PyData.eqv p p' else PyData.eqv p p')))):eqR n v w Q:=by
  unfold eqR
  split
  · cases hv;cases h1;rcases hn with ⟨x,z⟩ | ⟨x,z⟩ | z<;>cases z
  · cases hv;cases h1;rcases hn with ⟨x,z⟩ | ⟨x,z⟩ | z<;>cases z
  · cases hv;cases h1;rcases hn with ⟨x,z⟩ | ⟨x,z⟩ | z<;>cases z
  · unfold eqDeep
    rw [hv,hw]
    dsimp only
    rw [h1,h2]
    exact ⟨s1,s2,q⟩
theorem aa7 {P:Bool->Prop} {x:Bool} (q:P x):truR (.d (.bl x)) P:=by unfold truR;exact q
theorem abw {xs:List DV} (h:dats xs=some ds) (hl:Nat.ble ds.length szl=true) (q:Q (.d (.tup ds))):tupR xs Q:=by
  unfold tupR;rw [h];exact ⟨Nat.le_of_ble_eq_true hl,q⟩
theorem aca {xs:List DV} (h:dats xs=some ds) (hl:Nat.ble ds.length szl=true) (q:Q (.own (.lst ds))):lstR xs Q:=by
  unfold lstR;rw [h];exact ⟨Nat.le_of_ble_eq_true hl,q⟩
theorem al1 {P:List D->Prop} (q:P ds):iterR (.d (.tup ds)) P:=by unfold iterR;exact q
theorem al2 {P:List D->Prop} (q:P (signs z)):iterR (.d (.str z)) P:=by unfold iterR;exact q
theorem acF {P:List D->Prop} (q:P ds):iterR (.d (.lst ds)) P:=by unfold iterR;exact q
theorem acC {P:List D->Prop} (h1:-(2 ^ 62)<=j) (h2:j < 2 ^ 62) (q:P (intsFrom 0 j.toNat)):akl [.d (.int j)] P:=by unfold akl;exact ⟨h1,h2,q⟩
theorem ak3 (h:z.length<=szl) (q:Q (.d (.int z.length))):lenR [.d (.str z)] Q:=by unfold lenR;exact ⟨h,q⟩
theorem ajC (q:Q (.d (.int ds.length))):lenR [.d (.tup ds)] Q:=by unfold lenR;exact q
theorem aed (hv:v.items=some ds) (q:Q (.d (.int ds.length))):lenR [v] Q:=by
  unfold lenR
  split
  · rename_i h;cases h;cases hv
  · rename_i h;cases h;cases hv
  · rename_i h;cases h;rw [hv];exact q
  · rename_i h;exact absurd rfl (h v)
theorem l_int (q:Q (.d (.int i))):intC [.d (.int i)] Q:=by unfold intC;exact q
theorem l_abs (q:Q (.d (.int (if i < 0 then -i else i)))):absR [.d (.int i)] Q:=by unfold absR;exact q
theorem alW (hv:v.items=some ds) (q:Q (.own (.lst ds))):listR [v] Q:=by
  unfold listR
  split
  · rename_i h;cases h;cases hv
  · rename_i h;cases h;rw [hv];exact q
  · rename_i h;exact absurd rfl (h v)
theorem ah7 (hv:v.items=some ds) (q:Q (.d (.tup ds))):tupleR [v] Q:=by
  unfold tupleR
  split
  · rename_i h;cases h;cases hv
  · rename_i h;cases h;rw [hv];exact q
  · rename_i h;exact absurd rfl (h v)
theorem am9 {bs:List Bool} (hv:v.items=some ds) (hb:bools ds=some bs) (q:Q (.d (.bl (bs.all id)))):allR [v] Q:=by
  unfold allR
  dsimp only
  rw [hv]
  dsimp only
  rw [hb]
  exact q
theorem am5 (q:Q (.d (.int (Int.gcd i j)))):gcdR [.d (.int i),.d (.int j)] Q:=by unfold gcdR;exact q
theorem l_inC {n:Bool} {c:Nat} (h:a.cps.toList=[c]) (q:Q (.d (.bl (if n then !decide (c∈z.cps.toList) else decide (c∈z.cps.toList))))):inR n (.d (.str a)) (.d (.str z)) Q:=by
  unfold inR
  dsimp only
  rw [h]
  exact q
theorem items_cases (h:v.items=some ds):v=.d (.lst ds)\/v=.own (.lst ds)\/v=.bor (.lst ds)\/v=.see (.lst ds):=by
  unfold DV.items at h
  split at h<;>first | (cases h;done) | (injection h with h;subst h;simp)
theorem l_inL {n:Bool} (hv:v.items=some ds) (h1:flatD d=true) (h2:ds.all flatD=true) (q:Q (.d (.bl (if n then !inF d ds else inF d ds)))):inR n (.d d) v Q:=by
  rcases items_cases hv with e | e | e | e<;>subst e<;>(unfold inR;unfold inSeqR;cases d<;>exact ⟨h1,h2,q⟩)
theorem aaY (h:atI ds i=some d) (q:Q (.d d)):ixR (.d (.tup ds)) (.d (.int i)) Q:=by
  unfold ixR
  dsimp only
  rw [h];exact q
theorem l_ixS {c:Nat} (hz:z.length<=szl) (h:atI z.cps.toList i=some c) (q:Q (.d (.str ⟨#[c]⟩))):ixR (.d (.str z)) (.d (.int i)) Q:=by
  unfold ixR
  refine ⟨hz,?_⟩
  rw [h];exact q
theorem agl (hv:v.items=some ds) (h:atI ds i=some d) (q:Q (.d d)):ixR v (.d (.int i)) Q:=by
  rcases items_cases hv with e | e | e | e<;>subst e<;>(unfold ixR;dsimp only [DV.items];rw [h];exact q)
theorem am2 {ss:List Str} (hv:seqD v=some ds) (hs:strsD ds=some ss) (h:(ss.map (·.length)).sum + ss.length * a.length<=16777216) (q:Q (.d (.str (Txt.join a ss)))):joinR (.d (.str a)) v Q:=by
  unfold joinR
  dsimp only
  rw [hv]
  dsimp only
  rw [hs]
  exact ⟨h,q⟩
end
section
variable {g:TDG} {tt:TDT} {te:TD} {vs:List Nat} {Q:DV->DSt->Prop}
theorem ah5 (p:D->Bool) (f:D->D) (S:DSt):∀ (ds acc:List D),acc.length + ds.length<=szl->
    (∀ d∈ds,∀ (M:D->DSt->Prop) (A:DSt->Prop),(p d=true->M (f d) S)->(p d=false->A S)->g d S fun s1=>tt s1 (fun b s2=>Br b (te s2 (fun x s3=>match pubV x with
      | .d y=>M y (wipeD s3 vs)
      | _=>False) fun _ _ _=>False) (A (wipeD s2 vs))) fun _ _ _=>False)->
    Q (.own (.lst (acc++(ds.filter p).map f))) S->dLcL g tt te vs Q ds acc S
  | [],acc,_,_,q=>by rw [ae0];rw [List.filter_nil,List.map_nil,List.append_nil] at q;exact q
  | d::r,acc,hl,step,q=>by
    rw [adN]
    have hl2:acc.length + (r.length + 1)<=szl:=hl
    refine step d (List.mem_cons_self ..) (fun y s=>acc.length < szl/\dLcL g tt te vs Q r (acc++[y]) s) (fun s=>dLcL g tt te vs Q r acc s) (fun e=>⟨by omega,?_⟩) (fun e=>?_)
    · refine ah5 p f S r _ (by rw [List.length_append,List.length_singleton];omega) (fun d' h=>step d' (List.mem_cons_of_mem _ h)) ?_
      rw [List.filter_cons_of_pos e,List.map_cons] at q
      rw [List.append_assoc,List.singleton_append];exact q
    · refine ah5 p f S r _ (by omega) (fun d' h=>step d' (List.mem_cons_of_mem _ h)) ?_
      rw [List.filter_cons_of_neg (by simp [e])] at q
      exact q
theorem agk (f:D->D) (S:DSt) {ds:List D} (hl:ds.length<=szl)
    (step:∀ d∈ds,∀ (M:D->DSt->Prop) (A:DSt->Prop),M (f d) S->g d S fun s1=>tt s1 (fun b s2=>Br b (te s2 (fun x s3=>match pubV x with
      | .d y=>M y (wipeD s3 vs)
      | _=>False) fun _ _ _=>False) (A (wipeD s2 vs))) fun _ _ _=>False) (q:Q (.own (.lst (ds.map f))) S):dLcL g tt te vs Q ds [] S:=
  ah5 (fun _=>true) f S ds [] (by simpa using hl) (fun d h M A m _=>step d h M A (m rfl)) (by rw [List.filter_eq_self.mpr (fun _ _=>rfl)];exact q)
end
theorem afa {α:Type} (f:α->Bool) (xs:List α):bools (xs.map fun x=>D.bl (f x))=some (xs.map f):=by
  induction xs with
  | nil=>rfl
  | cons x r ih=>show (bools (r.map fun x=>D.bl (f x))).map (f x::·)=_;rw [ih];rfl
theorem aiQ (z:Str):(signs z).length=z.length:=by simp [signs,Str.length]
theorem ajq {z:Str} {d:D} (h:d∈signs z):∃ c∈z.cps.toList,d=.str ⟨#[c]⟩:=by
  obtain ⟨c,h1,h2⟩:=List.mem_map.mp h
  exact ⟨c,h1,h2.symm⟩
theorem up_ss {X:Cx} (W:WX) {sts:List Stmt} {t:TDS} (h:DSs X W sts t):PSs X sts (upS X.K W t):=h
theorem adq {K:PySem.W.Frag} {x qual:Str} {params:Arguments} {body:List Stmt} {scope:Scope} {kws:List (Str × V)} {f:Addr} {fd:FuncData} {ps:List Str} (F:FunD K x qual params body scope [] kws f fd)
    (h:∀ (kV doc pm:Value) (an:Option Addr) (cdv ct:Value) (us:List Value),us.length=ps.length->bindArgs (PySem.W.fnOf x qual params body scope .none kV doc pm an cdv ct) ⟨us,[]⟩=pure (ps.zip us)):Binds K fd ps []:=by
  obtain ⟨oc,od,dV,kV,doc,pm,an,cdv,ct,osl,rfl,lk,hcd,hD,hK⟩:=F.ex
  rcases hD with ⟨_,rfl⟩ | ⟨e,_⟩
  · exact Binds.all fun us hl=>h kV doc pm an cdv ct us hl
  · exact absurd rfl e
theorem aj2 {K:PySem.W.Frag} {x qual p:Str} {params:Arguments} {body:List Stmt} {scope:Scope} {kws:List (Str × V)} {f:Addr} {fd:FuncData} (F:FunD K x qual params body scope [] kws f fd)
    (h:∀ (kV doc pm:Value) (an:Option Addr) (cdv ct:Value) (u:Value),bindArgs (PySem.W.fnOf x qual params body scope .none kV doc pm an cdv ct) ⟨[u],[]⟩=pure [(p,u)]) (s:Shared) (u:Value):BindsTo s fd ⟨[u],[]⟩ [(p,u)]:=by
  obtain ⟨oc,od,dV,kV,doc,pm,an,cdv,ct,osl,rfl,lk,hcd,hD,hK⟩:=F.ex
  rcases hD with ⟨_,rfl⟩ | ⟨e,_⟩
  · exact .of_eq (h kV doc pm an cdv ct u)
  · exact absurd rfl e
section
variable {t u:TDS} {te:TD} {E:EndsD} {sl:DSt} {i:Nat}
theorem abf (P:DSt->Prop) (h:∀ N:DSt->Prop,(∀ s,P s->N s)->t { E with nx:=N } sl) (q:∀ s,P s->u E s):dSeq t u E sl:=h _ q
theorem adz (x:D) (h:∀ Q:DV->DSt->Prop,Q (.d x) sl->te sl Q E.xc) (q:u E (sl.set i (some (.d x)))):dSeq (dSet te i) u E sl:=h _ q
theorem aep (ds:List D) (h:∀ Q:DV->DSt->Prop,Q (.own (.lst ds)) sl->te sl Q E.xc) (q:u E (sl.set i (some (.own (.lst ds))))):dSeq (dSet te i) u E sl:=h _ q
theorem adj (R:D->Prop) (h:∀ Q:DV->DSt->Prop,(∀ x,R x->Q (.d x) sl)->te sl Q E.xc) (q:∀ x,R x->u E (sl.set i (some (.d x)))):dSeq (dSet te i) u E sl:=h _ q
end
theorem amg (ps:List PyData):PyData.eqv (.list ps) (.list [])=ps.isEmpty:=by
  cases ps<;>simp [PyData.eqv,PyData.eqvAll]
theorem aeI (L:Nat):∀ (ts:List Str) (k:Nat) (acc:Str),(∀ t∈ts,t.length<=L)->(PySem.textFrom k acc ts).length<=acc.length + ts.length * (L + 2)
  | [],k,acc,_=>by show acc.length<=_;omega
  | t::r,k,acc,h=>by
    have h1:=aeI L r (k + 1) (acc++(if k > 0 then ", " else "":String)++t) fun y hy=>h y (List.mem_cons_of_mem _ hy)
    have h2:=h t (List.mem_cons_self ..)
    have e:(acc++(if k > 0 then ", " else "":String)++t).length=acc.length + (if k > 0 then 2 else 0) + t.length:=by
      rw [strLen_append,strLen_append]
      split<;>rfl
    rw [e] at h1
    show (PySem.textFrom (k + 1) (acc++(if k > 0 then ", " else "":String)++t) r).length<=_
    rw [List.length_cons,Nat.add_mul]
    have h3:(if k > 0 then 2 else 0)<=2:=by split<;>omega
    omega
theorem ajF (L:Nat):∀ ts:List Str,(∀ t∈ts,t.length<=L)->(Str.join ", " ts).length<=ts.length * (L + 2)
  | [],_=>by show 0<=_;omega
  | [x],h=>by have:=h x (List.mem_cons_self ..);show x.length<=1 * (L + 2);omega
  | x::y::r,h=>by
    have h1:=ajF L (y::r) fun t ht=>h t (List.mem_cons_of_mem _ ht)
    have h2:=h x (List.mem_cons_self ..)
    show (x++", "++Str.join ", " (y::r)).length<=(r.length + 1 + 1) * (L + 2)
    rw [strLen_append,strLen_append]
    have e2:((", ":String):Str).length=2:=rfl
    rw [List.length_cons] at h1
    rw [Nat.add_mul (r.length + 1)]
    omega
structure Shw (n L:Nat) (d:D) (p:PyData):Prop where
  py:d.py=some p
  lay:p.canLay0=true
  dp:p.depth<=n
  sw:p.showable=true
  ln:p.shown.length<=L
inductive ShwAll (n L:Nat):List D->List PyData->Prop where
  | nil:ShwAll n L [] []
  | cons {d:D} {p:PyData} {ds:List D} {ps:List PyData} (h:Shw n L d p) (t:ShwAll n L ds ps):ShwAll n L (d::ds) (p::ps)
namespace Shw
variable {n m L M:Nat} {d:D} {p:PyData}
theorem mono (h:Shw n L d p) (h1:n<=m) (h2:L<=M):Shw m M d p:=⟨h.py,h.lay,Nat.le_trans h.dp h1,h.sw,Nat.le_trans h.ln h2⟩
theorem non:Shw 0 4 .non .none:=⟨rfl,by simp [PyData.canLay0],by simp [PyData.depth],by simp [PyData.showable],by simp [PyData.shown];decide⟩
theorem bl (b:Bool):Shw 0 5 (.bl b) (.bool b):=⟨rfl,by simp [PyData.canLay0],by simp [PyData.depth],by simp [PyData.showable],by cases b<;>simp [PyData.shown]<;>decide⟩
theorem str {z:Str} (h:∀ c∈z.cps.toList,c < 0x110000) (hl:z.length<=m):Shw 0 (10 * m + 2) (.str z) (.str z):=by
  refine ⟨rfl,?_,by simp [PyData.depth],by simp [PyData.showable],?_⟩
  · simp only [PyData.canLay0,PyData.strOk]
    rw [Array.all_eq_true']
    intro c hc
    exact decide_eq_true (h c (Array.mem_def.mp hc))
  · have:=PySem.StrLaws.reprText_len z fun c hc=>Nat.lt_trans (h c hc) (by decide)
    simp only [PyData.shown]
    omega
theorem int {i:Int} {k:Nat} (hk:0 < k) (h2:k<=500) (h0:0<=i) (h:i < 10 ^ k):Shw 0 k (.int i) (.int i):=by
  refine ⟨rfl,by simp [PyData.canLay0],by simp [PyData.depth],?_,?_⟩
  · simp only [PyData.showable]
    refine decide_eq_true ?_
    rcases Nat.eq_zero_or_pos i.natAbs with z | z
    · rw [z];decide
    refine (Nat.log2_lt (by omega)).mpr ?_
    have h3:i.natAbs < 10 ^ k:=by
      have:((i.natAbs:Nat):Int) < ((10 ^ k:Nat):Int):=by rw [Int.natAbs_of_nonneg h0];simpa using h
      exact Int.ofNat_lt.mp this
    refine Nat.lt_of_lt_of_le h3 (Nat.le_trans (Nat.pow_le_pow_right (by decide) h2) ?_)
    decide +kernel
  · simp only [PyData.shown]
    exact toString_length_le h0 hk h
theorem all:∀ {ds:List D} {ps:List PyData},ShwAll n L ds ps->D.pyAll ds=some ps/\PyData.canLayAll0 ps=true/\PyData.depthAll ps<=n/\PyData.showableAll ps=true/\(∀ t∈PyData.shownAll ps,t.length<=L)/\(PyData.shownAll ps).length=ds.length
  | _,_,.nil=>⟨by simp [D.pyAll],by simp [PyData.canLayAll0],by simp [PyData.depthAll],by simp [PyData.showableAll],by simp [PyData.shownAll],by simp [PyData.shownAll]⟩
  | _,_,.cons (d:=d) (p:=p) (ds:=ds) (ps:=ps) h t=>by
    obtain ⟨h1,h2,h3,h4,h5,h6⟩:=all t
    refine ⟨?_,?_,?_,?_,?_,?_⟩
    · unfold D.pyAll;rw [h.py,h1]
    · unfold PyData.canLayAll0;rw [h.lay,h2];rfl
    · unfold PyData.depthAll;exact Nat.max_le.mpr ⟨h.dp,h3⟩
    · unfold PyData.showableAll;rw [h.sw,h4];rfl
    · unfold PyData.shownAll
      intro t ht
      rcases List.mem_cons.mp ht with z | z
      · rw [z];exact h.ln
      · exact h5 t z
    · unfold PyData.shownAll;rw [List.length_cons,List.length_cons,h6]
theorem lst {ds:List D} {ps:List PyData} (h:ShwAll n L ds ps) (hl:ds.length<=m):Shw (n + 1) (m * (L + 2) + 2) (.lst ds) (.list ps):=by
  obtain ⟨h1,h2,h3,h4,h5,h6⟩:=all h
  refine ⟨by unfold D.py;rw [h1];rfl,by unfold PyData.canLay0;exact h2,by unfold PyData.depth;omega,by unfold PyData.showable;exact h4,?_⟩
  unfold PyData.shown listText
  rw [strLen_append]
  have:=aeI L (PyData.shownAll ps) 0 "[" h5
  have e1:(("[":String):Str).length=1:=rfl
  have e2:(("]":String):Str).length=1:=rfl
  rw [h6] at this
  have:=Nat.mul_le_mul_right (L + 2) hl
  omega
theorem tup {ds:List D} {ps:List PyData} (h:ShwAll n L ds ps) (hl:ds.length<=m):Shw (n + 1) (m * (L + 2) + 3) (.tup ds) (.tuple ps):=by
  obtain ⟨h1,h2,h3,h4,h5,h6⟩:=all h
  refine ⟨by unfold D.py;rw [h1];rfl,by unfold PyData.canLay0;exact h2,by unfold PyData.depth;omega,by unfold PyData.showable;exact h4,?_⟩
  unfold PyData.shown tupleText
  rw [strLen_append,strLen_append]
  have e1:(("(":String):Str).length=1:=rfl
  have e2:((if (PyData.shownAll ps).length == 1 then ",)" else ")":String):Str).length<=2:=by split<;>decide
  have e3:(Str.join ", " (PyData.shownAll ps)).length<=m * (L + 2):=by
    have j:=ajF L (PyData.shownAll ps) h5
    rw [h6] at j
    exact Nat.le_trans j (Nat.mul_le_mul_right _ hl)
  omega
end Shw
theorem Shw.shows {n L:Nat} {d:D} {p:PyData} (h:Shw n L d p) (hs:(∃ ds,d=.lst ds)\/∃ ds,d=.tup ds) (h1:n<=64) (h2:L<=szl):Shows d p:=⟨h.py,hs,by simp [SeqAt.shaped,h.lay,Nat.le_trans h.dp h1],h.sw,Nat.le_trans h.ln h2⟩
end DL
namespace DL
open PySem PySem.Spec PyProof.Rows L2
mutual
def datB (K:PySem.W.Frag):D->Value->Bool
  | .non,u=>(match u with | .none=>true | _=>false)
  | .bl b,u=>(match u with | .bool c=>b == c | _=>false)
  | .int i,u=>(match u with | .int j _=>decide (i=j) | _=>false)
  | .str x,u=>(match u with | .str y _=>decide (x=y) | _=>false)
  | .tup ds,u=>(match u with
    | .ref a=>(match K.lookup a with
      | some ⟨.type c,_,.seq its _,_⟩=>decide (c="tuple") && (decide (its.size<=sizeLine) && datsB K ds its.toList)
      | _=>false)
    | _=>false)
  | _,_=>false
def datsB (K:PySem.W.Frag):List D->List Value->Bool
  | [],us=>us.isEmpty
  | d::ds,us=>(match us with
    | u::r=>datB K d u && datsB K ds r
    | []=>false)
end
mutual
theorem ajX {K:PySem.W.Frag}:∀ (d:D) (u:Value),datB K d u=true->∃ v,RelV v u/\∀ G,DOk K G v d
  | .non,u,h=>by
    unfold datB at h
    split at h
    · exact ⟨.non,rfl,fun _=>.non⟩
    · cases h
  | .bl b,u,h=>by
    unfold datB at h
    split at h
    · have e:=eq_of_beq h
      exact ⟨.bl b,by rw [e];rfl,fun _=>.bl b⟩
    · cases h
  | .int i,u,h=>by
    unfold datB at h
    split at h
    · rename_i t
      exact ⟨.int i,⟨t,by rw [of_decide_eq_true h]⟩,fun _=>.int i⟩
    · cases h
  | .str x,u,h=>by
    unfold datB at h
    split at h
    · rename_i t
      exact ⟨.str x,⟨t,by rw [of_decide_eq_true h]⟩,fun _=>.str x⟩
    · cases h
  | .tup ds,u,h=>by
    unfold datB at h
    split at h
    · rename_i a
      split at h
      · rename_i c od its n sl q
        obtain ⟨h1,h2⟩:=He.ba h
        obtain ⟨h3,h4⟩:=He.ba h2
        obtain ⟨vs,r,w⟩:=aik ds its.toList h4
        exact ⟨.ref a,rfl,fun G=>.tup (.inr ⟨_,its,n,q,congrArg Value.type (of_decide_eq_true h1),rfl,of_decide_eq_true h3,r⟩) (w G)⟩
      · cases h
    · cases h
  | .lst _,_,h=>by unfold datB at h;cases h
  | .ins _ _,_,h=>by unfold datB at h;cases h
  | .dk _,_,h=>by unfold datB at h;cases h
  | .dt _,_,h=>by unfold datB at h;cases h
  | .any,_,h=>by unfold datB at h;cases h
  | .raw _,_,h=>by unfold datB at h;cases h
  | .kt _,_,h=>by unfold datB at h;cases h
theorem aik {K:PySem.W.Frag}:∀ (ds:List D) (us:List Value),datsB K ds us=true->∃ vs,Vals vs us/\∀ G,DAll K G vs ds
  | [],us,h=>by
    unfold datsB at h
    rw [List.isEmpty_iff] at h
    subst h
    exact ⟨[],.nil,fun _=>.nil⟩
  | d::ds,us,h=>by
    unfold datsB at h
    split at h
    · rename_i u r
      obtain ⟨h1,h2⟩:=He.ba h
      obtain ⟨v,r1,w1⟩:=ajX d u h1
      obtain ⟨vs,r2,w2⟩:=aik ds r h2
      exact ⟨v::vs,.cons r1 r2,fun G=>.cons (w1 G) (w2 G)⟩
    · cases h
end
def gloB (K:PySem.W.Frag) (q:Str × D):Bool:=match PySem.W.nsIn K mainGlobals q.1 with
  | some (some u)=>datB K q.2 u
  | _=>false
theorem amb {K:PySem.W.Frag} {h:Heap} {mg:Str->Option Value} (X:K.In h) (G:h.Ns mainGlobals mg) {x:Str} {d:D} (c:gloB K (x,d)=true):GlobD K mg x d:=by
  unfold gloB at c
  split at c
  · rename_i u e
    obtain ⟨v,r,w⟩:=ajX d u c
    exact ⟨v,u,PySem.W.mg_of X G e,r,w⟩
  · cases c
def bltB (K:PySem.W.Frag) (q:Str × String):Bool:=He.eqO (PySem.W.nsIn K mainGlobals q.1) (some (some (.builtin q.2)))
abbrev AlX:Type:=Bool × He.AlD
structure LX where
  cs:List (Str × D)
  bs:List (Str × String)
  xs:List (PySem.W.Frag->Bool)
def lamOk (g:Addr->Option Obj) (K:PySem.W.Frag):Bool:=(lamFns K).all fun q=>PySem.W.codeHdIn K q.1 q.2.1 && ((match g q.2.1 with
  | some o=>He.emptyTab o
  | none=>false) && (lamFns K).all fun q'=>q.2.1 != q'.2.1 || q.2.2 == q'.2.2)
def LX.ok (l:LX) (g:Addr->Option Obj) (K:PySem.W.Frag):Bool:=(l.cs.all (gloB K) && (l.bs.all (bltB K) && l.xs.all fun x=>x K)) && lamOk g K
def valX (fn:List He.DefD):AlX:=(true,He.valD fn)
structure SaysX (l:LX) (fa:List He.Fa) (fn:List He.DefD) (h:Heap) (K:PySem.W.Frag):Prop where
  c:(l.cs.all (gloB K) && (l.bs.all (bltB K) && l.xs.all fun x=>x K))=true
  s:He.SaysD fa fn K
  tc:∀ q∈lamFns K,PySem.W.codeHdIn K q.1 q.2.1=true
  tn:∀ q∈lamFns K,K.lookup q.2.1=none
  te:∀ q∈lamFns K,h.get? q.2.1=some { cls:=.none,data:=.fields #[] }
  tu:LamUq K
section
variable {l:LX} {fa:List He.Fa} {fn:List He.DefD} {h h0:Heap} {K:PySem.W.Frag} {mg:Str->Option Value}
theorem SaysX.glob (S:SaysX l fa fn h0 K) (X:K.In h) (G:h.Ns mainGlobals mg) (i:Nat) {x:Str} {d:D} (e:l.cs[i]?=some (x,d):=by rfl):GlobD K mg x d:=
  amb X G (List.all_eq_true.mp (He.ba S.c).1 _ (List.mem_of_getElem? e))
theorem SaysX.blt (S:SaysX l fa fn h0 K) (X:K.In h) (G:h.Ns mainGlobals mg) (i:Nat) {x:Str} {b:String} (e:l.bs[i]?=some (x,b):=by rfl):mg x=some (.builtin b):=
  PySem.W.mg_of X G (He.eqO_ok (List.all_eq_true.mp (He.ba (He.ba S.c).2).1 _ (List.mem_of_getElem? e)))
end
theorem alU {K:PySem.W.Frag} {x qual:Str} {params:Arguments} {body:List Stmt} {scope:Scope} {dvs:List V} {kws:List (Str × V)} {f:Addr} {fd:FuncData} (F:FunD K x qual params body scope dvs kws f fd) (h:lamNames.contains qual=true):∃ c,fd.code=.ref c/\(c,He.tabOf K c,qual++".<locals>."++"<lambda>")∈lamFns K:=by
  obtain ⟨oc,od,dV,kV,doc,pm,an,cdv,ct,osl,rfl,lk,hcd,_,_⟩:=F.ex
  obtain ⟨c,rfl⟩:=He.codeIn_ref hcd
  refine ⟨c,rfl,List.mem_filterMap.mpr ⟨_,He.lookup_mem lk,?_⟩⟩
  show (if lamNames.contains qual=true then some (c,He.tabOf K c,qual++".<locals>."++"<lambda>") else none)=_
  rw [if_pos h]
theorem aj6 {l:PySem.W.OpenLaw} {n k:Nat} {q:Program} {loose:List Str} {XP:(Str->Option Value)->Heap->Prop} {YP:World->Heap->Prop} {d:DefRec} {x:Str}
    (hn:l.most=some n) (hn2:n<=sizeLine) (hdf:d.params.defaults=[]) (hr:Room k callerA)
    (F:∀ (w:World) (mg:Str->Option Value) (fa:Addr) (h:Heap),YP w h->h.Ns mainGlobals mg->mg d.name=some (.ref fa)->
      ∃ (K:PySem.W.Frag) (fd:FuncData) (sp:Sp),K.In h/\(∀ (s:Shared) (u:Value),BindsTo s fd ⟨[u],[]⟩ [(x,u)])/\
        (∀ q∈lamFns K,h.get? q.2.1=some { cls:=.none,data:=.fields #[] })/\(∀ q∈lamFns K,K.lookup q.2.1=none)/\(∀ q∈lamFns K,PySem.W.codeHdIn K q.1 q.2.1=true)/\
        (∀ (H:Hp) (a:Addr) (ns:List Int),ns.length<=n->(∀ q∈lamFns K,H q.2.1=some (.tbl #[]))->SqL K H a (ns.map V.int)->sp [.ref a] H (fun v _=>v=.bl true) fun _ _ _=>False)/\
        ∀ base:Heap,K.In base->base.Ns mainGlobals mg->(∀ q∈lamFns K,LamX.TabB base mg q.1 q.2.1)->FnR l.prog w K mg base k fa fd [x] sp) :
    PySem.W.WalkO q loose XP YP l.row.toRowW d [] (fun f vs=>PySem.call f vs):=by
  refine Att.attach_call hn hdf fun w s0 s1 mg mb fa o pm cd doc a vs ns G Y ho hd hcd hmg hobj hints hlen hg=>?_
  obtain ⟨K,fd,sp,KX,hb,t1,t2,t3,hsp,hF⟩:=F w mg fa _ Y G.T.g hmg
  have im:∀ {p:Addr × Addr},p∈(lamFns K).map (fun q=>(q.1,q.2.1))->∃ q∈lamFns K,p=(q.1,q.2.1):=fun h=>by
    obtain ⟨q,hq,e⟩:=List.mem_map.mp h
    exact ⟨q,hq,e.symm⟩
  have mi:∀ q∈lamFns K,(q.1,q.2.1)∈(lamFns K).map (fun q=>(q.1,q.2.1)):=fun q hq=>List.mem_map.mpr ⟨q,hq,rfl⟩
  refine ajz (cs:=(lamFns K).map fun q=>(q.1,q.2.1)) KX G.T.g G.T.b G.T.builtins G.T.nolimit hg (fun p hp=>?_) (fun p hp=>?_) (fun p hp=>?_) G.T.bmain hobj hints (Nat.le_trans hlen hn2) hr (fun base h1 h2 h3=>hF base h1 h2 fun q hq=>h3 _ (mi q hq)) hb fun H hT hS=>hsp H a ns hlen (fun q hq=>hT _ (mi q hq)) hS
  · obtain ⟨q,hq,rfl⟩:=im hp;exact t1 q hq
  · obtain ⟨q,hq,rfl⟩:=im hp;exact t2 q hq
  · obtain ⟨q,hq,rfl⟩:=im hp;exact PySem.W.codeHd_of_K KX (t3 q hq)
section
variable {K:PySem.W.Frag} {G H:Hp} {so:So} {σ:L2.St} {sl:DSt} {i:Nat} {o o':OO} {a:Addr} {u:HO}
theorem akp {K:PySem.W.Frag} {G H:Hp} {a:Addr} {xs:List V} {o:OO} (w:OwnOk K G (upd H a (.tup xs)) a o):False:=by
  cases o with
  | lst ds=>obtain ⟨vs,e,_⟩:=w;rw [upd_same] at e;cases e
  | ins x C fs=>obtain ⟨_,dx,vs,e,_⟩:=w;rw [upd_same] at e;cases e
  | dk kvs=>obtain ⟨vs,e,_⟩:=w;rw [upd_same] at e;cases e
  | dt kvs=>obtain ⟨vs,e,_⟩:=w;rw [upd_same] at e;cases e
theorem PostS.mut (r:Rep K G so σ H sl) (e1:sl[i]?=some (some (.own o))) (e2:σ[i]?=some (some (.ref a))) (w:OwnOk K G (upd H a u) a o'):PostS K G so σ H sl σ (upd H a u) G (sl.set i (some (.own o'))):=by
  have ow:Own sl σ a:=⟨i,o,e1,e2⟩
  obtain ⟨na,ga,sa⟩:=r.nown ow
  have li:i < sl.length:=(List.getElem?_eq_some_iff.mp e1).1
  have ba:∀ b,Own (sl.set i (some (.own o'))) σ b->Own sl σ b:=fun b ⟨j,o2,f1,f2⟩=>by
    rcases get_set f1 with ⟨rfl,f3⟩ | ⟨nj,f3⟩
    · exact ⟨j,o,e1,f2⟩
    · exact ⟨j,o2,f3,f2⟩
  have gn:∀ b q,G b=some q->b≠a:=fun b q h z=>by subst z;rw [ga] at h;cases h
  refine ⟨Ex.refl G,⟨⟨fun b q h=>by rw [upd_ne (gn b q h)];exact r.h.ex b q h,fun b k e=>(r.h.vol b k e).keep (Ex.refl G) (r.h.vol b k e).g (upd_ne fun z=>sa (by rw [<- z];exact ⟨k,e⟩)),r.h.ok,ad7 r.h.tp (fun xs z=>by subst z;exact akp w)⟩,by rw [List.length_set];exact r.len,fun j dv f=>?_,fun j k p p' b f1 f2 g1 g2=>?_,fun j p b f1 f2 z=>?_,fun j p f=>?_⟩,
    fun b q h s n=>by rw [upd_ne (fun z=>n (by rw [z];exact ow))];exact h,fun _ _ g _ _=>g,fun b _ _ n z=>n (ba b z),rfl⟩
  · rcases get_set f with ⟨rfl,f3⟩ | ⟨nj,f3⟩
    · cases f3
      exact ⟨_,e2,a,rfl,ga,sa,w⟩
    · obtain ⟨v,f4,f5⟩:=r.slots j dv f3
      refine ⟨v,f4,?_⟩
      cases dv with
      | d x=>exact f5
      | src=>exact f5
      | own p=>
        obtain ⟨b,rfl,gb,sb,ok⟩:=f5
        have nb:b≠a:=fun z=>nj (r.sep j i p o b f3 e1 f4 (by rw [z];exact e2))
        exact ⟨b,rfl,gb,sb,ok.keep (Ex.refl G) (upd_ne nb)⟩
      | bor p=>
        obtain ⟨b,rfl,sb,ok⟩:=f5
        have nb:b≠a:=fun z=>r.bor j p b f3 f4 (by rw [z];exact ow)
        exact ⟨b,rfl,sb,ok.keep (Ex.refl G) (upd_ne nb)⟩
      | see p=>exact absurd f3 (r.nse j p)
      | mu y D gs=>exact SlOk.muU f5 (Ex.refl _) sa
      | gh _ _=>exact SlOk.ghU f5 (Ex.refl _) sa
  · have h1:∃ q,sl[j]?=some (some (.own q)):=by
      rcases get_set f1 with ⟨rfl,_⟩ | ⟨_,z⟩
      · exact ⟨_,e1⟩
      · exact ⟨_,z⟩
    have h2:∃ q,sl[k]?=some (some (.own q)):=by
      rcases get_set f2 with ⟨rfl,_⟩ | ⟨_,z⟩
      · exact ⟨_,e1⟩
      · exact ⟨_,z⟩
    obtain ⟨q1,h1⟩:=h1
    obtain ⟨q2,h2⟩:=h2
    exact r.sep j k q1 q2 b h1 h2 g1 g2
  · rcases get_set f1 with ⟨_,f3⟩ | ⟨_,f3⟩
    · cases f3
    · exact r.bor j p b f3 f2 (ba b z)
  · rcases get_set f with ⟨_,f3⟩ | ⟨_,f3⟩
    · cases f3
    · exact r.nse j p f3
end
def putD (f:Str) (d:D):List (Str × D)->List (Str × D)
  | []=>[(f,d)]
  | (g,x)::r=>if g=f then (g,d)::r else (g,x)::putD f d r
theorem FAll.put {K:PySem.W.Frag} {G:Hp} {f:Str} {v:V} {d:D} (h:DOk K G v d):∀ {vs:List (Str × V)} {fs:List (Str × D)},FAll K G vs fs->FAll K G (putF f v vs) (putD f d fs)
  | _,_,.nil=>.cons h .nil
  | _,_,.cons (x:=x) q t=>by
    unfold putF putD
    split
    · exact .cons h t
    · exact .cons q (FAll.put h t)
theorem FAll.length {K:PySem.W.Frag} {G:Hp}:∀ {vs:List (Str × V)} {fs:List (Str × D)},FAll K G vs fs->vs.length=fs.length
  | _,_,.nil=>rfl
  | _,_,.cons _ t=>congrArg (· + 1) t.length
def DV.inst:DV->Option (Addr × List (Str × D))
  | .d (.ins C fs)=>some (C,fs)
  | .own (.ins _ C fs)=>some (C,fs)
  | .bor (.ins _ C fs)=>some (C,fs)
  | .see (.ins _ C fs)=>some (C,fs)
  | _=>none
@[irreducible] def fldR (K:PySem.W.Frag) (f:Str) (x:DV) (Q:DV->Prop):Prop:=match x.inst with
  | some (C,fs)=>Cls K C/\NoAttr K C f/\match fs.lookup f with
    | some d=>Q (.d d)
    | none=>False
  | none=>False
section
variable {K:PySem.W.Frag} {G H:Hp} {so:So} {v:V} {dv:DV} {C:Addr} {fs:List (Str × D)}
theorem VOk.inst (h:HRep K G so H) (w:VOk K G so H v dv) (e:dv.inst=some (C,fs)):∃ a dx vs,v=.ref a/\H a=some (.ins C dx vs)/\FAll K G vs fs:=by
  unfold DV.inst at e
  split at e
  · cases e
    cases w with
    | ins g g2 t=>exact ⟨_,_,_,rfl,h.ex _ _ g,t⟩
  · cases e;obtain ⟨a,rfl,_,_,_,dx,vs,h1,_,h2⟩:=w;exact ⟨a,dx,vs,rfl,h1,h2⟩
  · cases e;obtain ⟨a,rfl,_,_,dx,vs,h1,_,h2⟩:=w;exact ⟨a,dx,vs,rfl,h1,h2⟩
  · cases e;obtain ⟨a,rfl,_,_,dx,vs,h1,_,h2⟩:=w;exact ⟨a,dx,vs,rfl,h1,h2⟩
  · cases e
theorem alt {f:Str}:UnSem K (fun x H1 Q=>∃ a C dx fs v,x=.ref a/\H1 a=some (.ins C dx fs)/\Cls K C/\NoAttr K C f/\fs.lookup f=some v/\Q v H1) (fldR K f):=by
  intro G so H x dx Q R h w q hq
  unfold fldR at q
  split at q
  · rename_i C fs e
    obtain ⟨c,n,q⟩:=q
    split at q
    · rename_i d e2
      obtain ⟨a,dd,vs,rfl,h1,h2⟩:=w.inst h e
      obtain ⟨u,e3,e4⟩:=h2.look e2
      exact ⟨a,C,dd,vs,u,rfl,h1,c,n,e3,hq u H G _ (.dat h e4) q⟩
    · exact q.elim
  · exact q.elim
end
section
variable {X:Cx} {W:WX} {e o value:Expr} {f:Str} {pos pos':Pos} {te:TD} {i:Nat}
theorem ajW {K:PySem.W.Frag} (he:DE X W e te) (hK:X.K=K:=by rfl) (hb:attributeBase e f X.env (eval e X.env)=eval e X.env:=by rfl):DE X W (.Attribute e f pos) (dUn (fldR K f) te):=by
  subst hK
  exact aa6 (pe_fld he hb) fun _ _ _ h=>amA alt h
def dFldSet (K:PySem.W.Frag) (te:TD) (i:Nat) (f:Str):TDS:=fun E sl=>te sl (fun y s1=>match s1[i]?,pubV y with
  | some (some (.own (.ins x C fs))),.d d=>Cls K C/\NoAttr K C f/\fs.length < 1000/\E.nx (s1.set i (some (.own (.ins x C (putD f d fs)))))
  | _,_=>False) E.xc
theorem alb {K:PySem.W.Frag} (ho:PE X o (tVar i)) (hv:DE X W value te) (hK:X.K=K:=by rfl) (hs:swapsWith value (some (.Attribute o f pos')) pos.line X.env=pure false:=by rfl):DS X W (.Assign [.Attribute o f pos'] value pos) (dFldSet K te i f):=by
  subst hK
  refine ac8 (ps_fld ho hv hs) fun D σ H ⟨G,so,sl,E,rep,q,ok⟩=>?_
  refine ⟨G,so,sl,_,E.xc,rep,q,fun y H1 G1 dy s1 p1 z=>?_,ok.xc.ex⟩
  obtain ⟨G2,p2⟩:=p1.pub
  split at z
  · rename_i x C fs d e1 e2
    obtain ⟨c,n,l,z⟩:=z
    obtain ⟨v,f1,a,rfl,ga,sa,ex,dx,vs,h1,gd,h2⟩:=p2.rep.slots i _ e1
    subst ex
    have wy:DOk X.K G2 y d:=by have:=p2.val;rw [e2] at this;exact this
    refine ⟨.ref a,f1,a,C,dx,vs,rfl,h1,c,n,by rw [h2.length];exact l,?_⟩
    exact ok.nx σ _ G2 _ (p2.toPost.s.trans (PostS.mut (o':=.ins a C (putD f d fs)) p2.rep e1 f1 ⟨rfl,dx,_,upd_same,gd,h2.put wy⟩)) z
  · exact z.elim
def dAppend (te:TD) (i:Nat):TDS:=fun E sl=>(∃ ds,sl[i]?=some (some (.own (.lst ds))))/\te sl (fun y s1=>match s1[i]?,pubV y with
  | some (some (.own (.lst ds))),.d d=>ds.length < szl/\E.nx (s1.set i (some (.own (.lst (ds++[d])))))
  | _,_=>False) E.xc
theorem ajR (ho:PE X o (tVar i)) (hv:DE X W value te) (hbase:attributeBase o "append" X.env (eval o X.env)=eval o X.env:=by rfl)
    (hfew:((backTo pos (starEach [value] X.env)).all (fun x=>!x.1) && (backToKw pos (keywordEach [] X.env)).all (fun x=>x.1.isSome)
      && decide ([value].length + ([]:List Keyword).length + (if ([]:List Keyword).isEmpty then 0 else 1) < 30))=true:=by rfl)
    (hline:(pos'.endLine == pos.line)=true:=by rfl) (hs:starEach [value] X.env=(false,eval value X.env)::starEach [] X.env:=by rfl) (hplain:(backTo pos (starEach [] X.env)).any (·.1)=false:=by rfl) {spos:Pos}
    (hsw:swapsWith (.Call (.Attribute o "append" pos') [value] [] pos) none spos.line X.env=pure false:=by rfl) :
    DS X W (.Expr (.Call (.Attribute o "append" pos') [value] [] pos) spos) (dAppend te i):=by
  refine ac8 (ps_expr (pe_bm PySem.F.plainAttrs_list PySem.F.slot_list_append PySem.F.type_list_append mt_append ho (pa_cons hv pa_nil hs) hbase hfew hline hs hplain) hsw) fun D σ H ⟨G,so,sl,E,rep,q,ok⟩=>?_
  obtain ⟨⟨ds0,e0⟩,q⟩:=q
  obtain ⟨v0,f0,a,rfl,ga,sa,vs0,h0,d0⟩:=rep.slots i _ e0
  refine ⟨.ref a,f0,.inl ⟨rfl,_,SqL.of h0⟩,?_⟩
  refine ⟨G,so,sl,_,E.xc,rep,q,fun y H1 G1 dy s1 p1 z=>?_,ok.xc.ex⟩
  obtain ⟨G2,p2⟩:=p1.pub
  split at z
  · rename_i ds d e1 e2
    obtain ⟨l,z⟩:=z
    obtain ⟨v,f1,b,rfl,gb,sb,vs,h1,h2⟩:=p2.rep.slots i _ e1
    rw [f0] at f1
    cases f1
    have wy:DOk X.K G2 y d:=by have:=p2.val;rw [e2] at this;exact this
    refine ⟨a,vs,y,rfl,rfl,h1,by rw [h2.length];exact l,?_⟩
    exact ok.nx σ _ G2 _ (p2.toPost.s.trans (PostS.mut (o':=.lst (ds++[d])) p2.rep e1 f0 ⟨_,upd_same,h2.append (.cons wy .nil)⟩)) z
  · exact z.elim
end
abbrev SpI:=List DV->(List (Str × D)->Prop)->XE'->Prop
structure PostX (K:PySem.W.Frag) (G:Hp) (so:So) (H:Hp) (x:Addr) (H' G':Hp):Prop where
  ex:Ex G G'
  hrep:HRep K G' so H'
  keep:∀ a o,H a=some o->so.Nt a->a≠x->H' a=some o
  frm:∀ a,H a≠none->G a=none->so.Nt a->a≠x->G' a=none
structure PostI (K:PySem.W.Frag) (G:Hp) (so:So) (H:Hp) (x C:Addr) (H' G':Hp) (fs:List (Str × D)):Prop extends PostX K G so H x H' G' where
  own:OwnOk K G' H' x (.ins x C fs)
  gx:G' x=none
def upIn (K:PySem.W.Frag) (C:Addr) (sp:SpI):Sp:=fun vs H Q E=>∃ x vs' G so args QD ED,vs=.ref x::vs'/\HRep K G so H/\OwnOk K G H x (.ins x C [])/\G x=none/\so.Nt x/\VsOk K G so H vs' args/\sp args QD ED/\
  (∀ H' G' fs,PostI K G so H x C H' G' fs->QD fs->Q .non H')/\(∀ cls d H' G' fs,PostX K G so H x H' G'->XdOk K G' H' d fs->ED cls fs->E cls d H')
def endI (x C:Addr) (Q:List (Str × D)->Prop) (sl:DSt):Prop:=∃ fs,sl[0]?=some (some (.own (.ins x C fs)))/\Q fs
theorem start_get0 {N:List Str} {d e:DV} {args:List DV} {i:Nat} (h:(startD N (d::args))[i]?=some (some e)):(i=0/\e=d)\/∃ j,i=j + 1/\args[j]?=some e:=by
  have z:=acq h
  cases i with
  | zero=>left;simp at z;exact ⟨rfl,z.symm⟩
  | succ j=>right;exact ⟨j,rfl,by simpa using z⟩
theorem aeo {N:List Str} {vs:List V} {i:Nat} {v:V} (h:vs[i]?=some v):(L2.start N vs)[i]?=some (some v):=by
  unfold L2.start
  have hi:i < vs.length:=(List.getElem?_eq_some_iff.mp h).1
  rw [List.getElem?_append_left (by simpa using hi),List.getElem?_map,h];rfl
def noZero:List Sel->Bool
  | []=>true
  | .pos 0::_=>false
  | _::r=>noZero r
theorem adK {v v':V} {vs qs:List V}:∀ {sel:List Sel},noZero sel=true->sel.map (pickV (v::vs) qs)=sel.map (pickV (v'::vs) qs)
  | [],_=>rfl
  | .pos 0::_,h=>by cases h
  | .pos (i + 1)::r,h=>by rw [List.map_cons,List.map_cons,adK (sel:=r) h];rfl
  | .kw j::r,h=>by rw [List.map_cons,List.map_cons,adK (sel:=r) h];rfl
  | .dfl a b::r,h=>by rw [List.map_cons,List.map_cons,adK (sel:=r) h];rfl
def dMake (sp:SpI) (C:Addr) (n m:Nat) (sel:List Sel) (ta tk:TDA):TD:=fun sl Q E=>ta sl (fun xs s1=>tk s1 (fun ys s2=>xs.length=n/\ys.length=m/\sp (sel.map (pickD (.d .non::xs) ys)) (fun fs=>Q (.d (.ins C fs)) s2) fun cls fs=>E cls fs s2) E) E
section
variable {X:Cx} {W:WX} {k n:Nat} {f C:Addr} {fd:FuncData} {ps ks:List Str} {sp:SpI} {sel:List Sel} {x nm:Str} {p pos kpos:Pos} {e:Expr} {es:List Expr} {kws:List Keyword} {ta tk tk':TDA} {te:TD}
theorem agT {pins:List (Addr × Obj)} {σ:L2.St} {H G:Hp} {so:So} {sl:DSt} {s:Shared} {Q:VK} {us ws:List Value} {vs qs:List V} {ds es:List DV} {Q':DV->DSt->Prop} {E:XP} (M:Mk X.K C f) (F:FnR X.prog X.w X.K X.mg X.base k f fd ps (upIn X.K C sp)) (hr:Room (k + 1) X.A) (hg:X.A.guards=some []) (tk:L2N.Takes X W) (hb:Bd X.K fd ps (n + 1) ks (.pos 0::sel)) (hz:noZero sel=true)
    (I:Inv X pins σ H s) (rep:Rep X.K G so σ H sl) (r:Vals vs us) (r2:Vals qs ws) (w:VsOk X.K G so H vs ds) (w2:VsOk X.K G so H qs es) (l1:ds.length=n) (l2:es.length=ks.length)
    (q:sp (sel.map (pickD (.d .non::ds) es)) (fun fs=>Q' (.d (.ins C fs)) sl) fun cls fs=>E cls fs sl) (hq:∀ v H' G' dv sl',PostE X.K G so σ H sl v H' G' dv sl'->Q' dv sl'->Q v H') (hx:XOk X.K W G so σ H sl E) :
    wpAny (model X.prog X.w) X.A (call (.ref C) us (ks.zip ws)) (EP X pins σ Q) X.xe s:=by
  have I2:=Inv.made (C:=C) I
  generalize hxx:s.heap.objs.size + 1=x at I2
  have nx:H x=none:=by rw [<- hxx];exact I.hok.fresh (Nat.le_succ _)
  have nd:H s.heap.objs.size=none:=I.hok.fresh (Nat.le_refl _)
  have ne:s.heap.objs.size≠x:=by rw [<- hxx];exact Nat.ne_of_lt (Nat.lt_succ_self _)
  generalize hdd:s.heap.objs.size=dx at I2 nd ne
  have nx2:upd H dx (.own x) x=none:=by rw [upd_ne (Ne.symm ne)];exact nx
  have h0:HRep X.K (upd G dx (.own x)) so (upd (upd H dx (.own x)) x (.ins C dx [])):=(rep.h.allocG nd).alloc nx2
  have gx:upd G dx (.own x) x=none:=by rw [upd_ne (Ne.symm ne)];exact rep.h.ex.free nx
  have kp:∀ a o,H a=some o->upd (upd H dx (.own x)) x (.ins C dx []) a=some o:=fun a o e=>by
    rw [upd_ne (ne_of_none e nx),upd_ne (ne_of_none e nd)];exact e
  have eg:Ex G (upd G dx (.own x)):=Ex.new (rep.h.ex.free nd)
  have w':VsOk X.K (upd G dx (.own x)) so (upd (upd H dx (.own x)) x (.ins C dx [])) vs ds:=w.keep eg fun a o e _=>kp a o e
  have w2':VsOk X.K (upd G dx (.own x)) so (upd (upd H dx (.own x)) x (.ins C dx [])) qs es:=w2.keep eg fun a o e _=>kp a o e
  obtain ⟨zs,bt,rz⟩:=hb.to _ (.ref x::us) ws (.ref x::vs) qs I2.kIn (by rw [List.length_cons,<- r.length,w.length,l1]) (by rw [<- r2.length,w2.length,l2]) (.cons rfl r) r2
  have pk:VsOk X.K (upd G dx (.own x)) so (upd (upd H dx (.own x)) x (.ins C dx [])) (sel.map (pickV (.ref x::vs) qs)) (sel.map (pickD (.d .non::ds) es)):=by
    rw [adK (v':=.non) hz]
    exact VsOk.pick (.cons (d:=.d .non) (show DOk _ _ _ _ from .non) (fun _ e=>(nomatch e)) w') w2' sel fun s hs=>hb.dok s (List.mem_cons_of_mem _ hs)
  subst hdd
  subst hxx
  refine wpAny_call (make_map (f:=f) I.kIn M.makes M.init (beq_iff_eq.mp M.fn) (codeAny_mono (F.run _ X.stack _ _ ⟨Value.ref (s.heap.objs.size + 1)::us,ks.zip ws⟩ zs _ (fun v H2=>v=.non/\Q (.ref (s.heap.objs.size + 1)) H2) (fun cls d H'=>W cls d σ H') (hr.make C us (ks.zip ws)) hg
    (I2.env0.make C us (ks.zip ws)) bt rz ⟨s.heap.objs.size + 1,_,_,so.drop,_,_,_,rfl,h0.drop,⟨rfl,_,[],upd_same,upd_same,.nil⟩,gx,So.drop_nt (rep.h.there nx),pk.drop,q,fun H' G' fs p z=>⟨rfl,?_⟩,fun cls d H' G' fs p z1 z2=>?_⟩) fun r s' hz'=>?_))
  · obtain ⟨_,dx',vs2,e1,e2,e3⟩:=p.own
    have gn:G' (s.heap.objs.size + 1)=none:=p.gx
    have hb':HRep X.K G' so H':=h0.back p.ex p.hrep (fun a C o e nt ho=>p.keep a o ho nt (fun z=>by subst z;exact rep.h.there nx ⟨_,e⟩)) (fun a C e nt n g=>p.frm a n g nt fun z=>by subst z;exact rep.h.there nx ⟨_,e⟩)
    have pv:PostV X.K G so H (.ref (s.heap.objs.size + 1)) H' (upd G' (s.heap.objs.size + 1) (.ins C dx' vs2)) (.d (.ins C fs)):=
      ⟨eg.trans (p.ex.trans (Ex.new gn)),aes hb' e1 gn (rep.h.there nx),fun a o e sa=>p.keep a o (kp a o e) (So.drop_nq sa) (ne_of_none e nx),fun a n1 g sa=>by
        have n2:a≠s.heap.objs.size + 1:=fun z=>by rw [z] at n1;exact n1 nx
        have n3:a≠s.heap.objs.size:=fun z=>by rw [z] at n1;exact n1 nd
        rw [upd_ne n2]
        exact p.frm a (by rw [upd_ne n2,upd_ne n3];exact n1) (by rw [upd_ne n3];exact g) (So.drop_nt sa) n2,
        .ins upd_same (Ex.new gn _ _ e2) (e3.mono (Ex.new gn)),fun _ _ e=>(nomatch e),fun _ e=>(nomatch e)⟩
    exact hq _ H' _ _ sl (pv.slots rep) z
  · have hb':HRep X.K G' so H':=h0.back p.ex p.hrep (fun a C o e nt ho=>p.keep a o ho nt (fun z=>by subst z;exact rep.h.there nx ⟨_,e⟩)) (fun a C e nt n g=>p.frm a n g nt fun z=>by subst z;exact rep.h.there nx ⟨_,e⟩)
    have pn:PostV X.K G so H .non H' G' (.d .non):=⟨eg.trans p.ex,hb',fun a o e sa=>p.keep a o (kp a o e) (So.drop_nq sa) (ne_of_none e nx),fun a n1 g sa=>by
        have n2:a≠s.heap.objs.size + 1:=fun z=>by rw [z] at n1;exact n1 nx
        have n3:a≠s.heap.objs.size:=fun z=>by rw [z] at n1;exact n1 nd
        exact p.frm a (by rw [upd_ne n2,upd_ne n3];exact n1) (by rw [upd_ne n3];exact g) (So.drop_nt sa) n2,.non,fun _ _ e=>(nomatch e),fun _ e=>(nomatch e)⟩
    exact hx cls d H' G' fs sl (pn.slots rep).toPost z1 z2
  · cases r with
    | error e=>exact tk e s' (L2N.XE.of_call I2 (fun _ _ _ z=>z) hz')
    | ok fl=>
      cases fl with
      | ret u=>
        obtain ⟨v,H',I3,rv,ev,q3⟩:=I2.after hz'
        subst ev
        exact ⟨rv,⟨V.ref (s.heap.objs.size + 1),H',I3,rfl,q3⟩⟩
      | next=>exact False.elim hz'
      | brk=>exact False.elim hz'
      | cont=>exact False.elim hz'
theorem ahJ (M:Mk X.K C f) (F:FnR X.prog X.w X.K X.mg X.base k f fd ps (upIn X.K C sp)) (hr:Room (k + 1) X.A) (hgd:X.A.guards=some []) (tk:L2N.Takes X W) (hb:Bd X.K fd ps (n + 1) [] (.pos 0::sel)) (hz:noZero sel=true) (hg:Gl X x) (hm:X.mg x=some (.ref C))
    (ha:DA X W (e::es) ta) (hdb:(x == ("__debug__":Str))=false:=by decide) (he:starEach (e::es) X.env=(false,eval e X.env)::starEach es X.env:=by rfl) (hpl:(backTo pos (starEach es X.env)).any (·.1)=false:=by rfl) :
    DE X W (.Call (.Name x p) (e::es) [] pos) (dMake sp C n 0 sel ta dNil):=by
  refine ⟨fun pins s σ H Q I ⟨G,so,sl,Q',E,rep,q,hq,hx⟩=>wpAny_Call_Name_kw (ld_glob I hg hm ?_ hdb)⟩
  refine PySem.W.callWith_K (h₀:=X.base) I.ok.mod.kin M.kp (thn (ha.run pos pins s σ H (fun vs H1=>∃ G1 ds s1,Post X.K G so σ H sl H1 G1 s1/\VsOk X.K G1 so H1 vs ds/\ds.length=n/\sp (sel.map (pickD (.d .non::ds) [])) (fun fs=>Q' (.d (.ins C fs)) s1) fun cls fs=>E cls fs s1) I
    ⟨G,so,sl,_,E,rep,q,fun vs H1 G1 ds s1 p1 w z=>⟨G1,ds,s1,p1,w,z.1,z.2.2⟩,hx⟩) fun us s1 ⟨vs,H1,I1,r,G1,ds,sl1,p1,w,l1,z⟩=>⟨I1.kIn,?_⟩) he hpl
  exact agT (ws:=[]) (qs:=[]) (es:=[]) M F hr hgd tk hb hz I1 p1.rep r .nil w .nil l1 rfl z (fun v H' G' dv sl' pe z'=>hq v H' G' dv sl' (p1.thenE pe) z') (hx.step p1)
theorem adn (M:Mk X.K C f) (F:FnR X.prog X.w X.K X.mg X.base k f fd ps (upIn X.K C sp)) (hr:Room (k + 1) X.A) (hgd:X.A.guards=some []) (tk:L2N.Takes X W) (hb:Bd X.K fd ps (n + 1) ks (.pos 0::sel)) (hz:noZero sel=true) (hg:Gl X x) (hm:X.mg x=some (.ref C))
    (ha:DA X W (e::es) ta) (hkw:DK X W kws tk') (hall:(backToKw pos (keywordEach kws X.env)).all (·.1.isSome)=true:=by rfl) (hks:(backToKw pos (keywordEach kws X.env)).filterMap (·.1)=ks:=by rfl) (hdb:(x == ("__debug__":Str))=false:=by decide)
    (he:starEach (e::es) X.env=(false,eval e X.env)::starEach es X.env:=by rfl) (hpl:((backTo pos (starEach (e::es) X.env)).any (·.1) || (backToKw pos (keywordEach kws X.env)).any (·.1.isNone))=false:=by rfl) :
    DE X W (.Call (.Name x p) (e::es) kws pos) (dMake sp C n ks.length sel ta tk'):=by
  refine ⟨fun pins s σ H Q I ⟨G,so,sl,Q',E,rep,q,hq,hx⟩=>wpAny_Call_Name_kw (ld_glob I hg hm ?_ hdb)⟩
  refine PySem.W.callWith_KW (h₀:=X.base) I.ok.mod.kin M.kp hall (thn (ha.run pos pins s σ H (fun vs H1=>∃ G1 ds s1,Post X.K G so σ H sl H1 G1 s1/\VsOk X.K G1 so H1 vs ds/\tk' s1 (fun ys s2=>ds.length=n/\ys.length=ks.length/\sp (sel.map (pickD (.d .non::ds) ys)) (fun fs=>Q' (.d (.ins C fs)) s2) fun cls fs=>E cls fs s2) E) I
    ⟨G,so,sl,_,E,rep,q,fun vs H1 G1 ds s1 p1 w z=>⟨G1,ds,s1,p1,w,z⟩,hx⟩) fun us s1 ⟨vs,H1,I1,r,G1,ds,sl1,p1,w,z⟩=>?_) hpl he
  refine thn (hkw.run pos pins s1 σ H1 (fun qs H2=>∃ G2 es s2,Post X.K G1 so σ H1 sl1 H2 G2 s2/\VsOk X.K G2 so H2 qs es/\ds.length=n/\es.length=ks.length/\sp (sel.map (pickD (.d .non::ds) es)) (fun fs=>Q' (.d (.ins C fs)) s2) fun cls fs=>E cls fs s2) I1
    ⟨G1,so,sl1,_,E,p1.rep,z,fun qs H2 G2 es s2 p2 w2 z=>⟨G2,es,s2,p2,w2,z⟩,hx.step p1⟩) fun ws s2 ⟨qs,H2,I2,r2,G2,es,sl2,p2,w2,l1,l2,z⟩=>⟨I2.kIn,?_⟩
  rw [hks]
  exact agT M F hr hgd tk hb hz I2 p2.rep r r2 (w.keep p2.ex p2.keep) w2 l1 l2 z (fun v H' G' dv sl' pe z'=>hq v H' G' dv sl' ((p1.trans p2).thenE pe) z') (hx.step (p1.trans p2))
end
def dMeth (sp:SpD) (C:Addr) (m:Str) (n l:Nat) (sel:List Sel) (to:TD) (ta tk:TDA):TD:=fun sl Q E=>to sl (fun x s0=>match pubV x with
  | .d (.ins D fs)=>D=C/\fs.lookup m=none/\ta s0 (fun xs s1=>tk s1 (fun ys s2=>xs.length=n/\ys.length=l/\sp (sel.map (pickD (.d (.ins D fs)::xs) ys)) (fun v=>Q v s2) fun cls fs=>E cls fs s2) E) E
  | _=>False) E
section
variable {X:Cx} {W:WX} {k n:Nat} {f C:Addr} {fd:FuncData} {ps ks:List Str} {sp:SpD} {sel:List Sel} {m nm:Str} {p pos apos kpos:Pos} {o e:Expr} {es:List Expr} {kws:List Keyword} {ta tk tk':TDA} {to te:TD} {pl:Sem Bool}
end
section
variable {X:Cx} {K:PySem.W.Frag} {W:WX} {a b:Expr} {ta tb:TD} {pos:Pos}
def rMulU:R2:=fun x y H Q=>(rI CMulW fun i j=>.int (i * j)) x y H Q\/rRep x y H Q
theorem alI:OpR X (binaryOp .Mult) rMulU:=fun pins s σ H x y v u Q I rx ry h=>h.elim (fun h=>op_mulW pins s σ H x y v u Q I rx ry h) fun h=>op_rep pins s σ H x y v u Q I rx ry h
theorem DAll.rep {K:PySem.W.Frag} {G:Hp} {vs:List V} {ds:List D} (h:DAll K G vs ds):∀ n:Nat,DAll K G (List.replicate n vs).flatten (List.replicate n ds).flatten
  | 0=>.nil
  | n + 1=>by rw [List.replicate_succ,List.replicate_succ,List.flatten_cons,List.flatten_cons];exact h.append (h.rep n)
theorem alr:OpSem K rMulU mulR:=by
  intro G so H x y dx dy Q R h w1 w2 q k
  unfold mulR at q
  split at q
  · cases w1;cases w2
    exact .inl ⟨_,_,rfl,rfl,q.1,k _ H G _ (.dat h (.int _)) q.2⟩
  · rename_i c _
    cases w2
    split at q
    · rename_i ds e
      obtain ⟨l,vs,rfl,h1,h2⟩:=w1.list h e
      obtain ⟨q1,q2,q3,q4⟩:=q
      exact .inr ⟨l,c,vs,rfl,rfl,h1,q1,q2,by rw [h2.length];exact q3,fun p np=>k _ _ G _ (.list h np (h2.rep _)) q4⟩
    · exact q.elim
  · exact q.elim
theorem acf (ha:DE X W a ta) (hb:DE X W b tb):DE X W (.BinOp a .Mult b pos) (dOp mulR ta tb):=aiH alI alr ha hb
end
theorem adw {Q:DV->Prop} {i j:Int} (h:CMulW i j) (q:Q (.d (.int (i * j)))):mulR (.d (.int i)) (.d (.int j)) Q:=by unfold mulR;exact ⟨h,q⟩
theorem ae1 {Q:DV->Prop} {v:DV} {ds:List D} {k:Int} (hv:v.items=some ds) (h1:-(2 ^ 63)<=k) (h2:k < 2 ^ 63) (h3:ds.length * k.toNat<=szl) (q:Q (.own (.lst (List.replicate k.toNat ds).flatten))):mulR v (.d (.int k)) Q:=by
  rcases items_cases hv with e | e | e | e<;>subst e<;>(unfold mulR;dsimp only [DV.items];exact ⟨h1,h2,h3,q⟩)
section
variable {X:Cx} {K:PySem.W.Frag}
end
def dPar (i j:Nat) (ta:TDA):TDS:=fun E sl=>ta sl (fun vs s1=>match vs with
  | [.d x,.d y]=>E.nx ((s1.set i (some (.d x))).set j (some (.d y)))
  | _=>False) E.xc
theorem PostE.ofD {K:PySem.W.Frag} {G G1:Hp} {so:So} {σ:L2.St} {H H1:Hp} {sl s1:DSt} {v:V} {x:D} (p:Post K G so σ H sl H1 G1 s1) (w:DOk K G1 v x):PostE K G so σ H sl v H1 G1 (.d x) s1:=
  { p with val:=w,new:=fun _ _ e=>(nomatch e),sepv:=fun _ _ e=>e.elim (fun e=>(nomatch e)) fun e=>(nomatch e),nbs:=fun _ _ _ _ e=>(nomatch e) }
section
variable {X:Cx} {W:WX} {pos:Pos} {i j:Nat} {x y:Str} {a b:Expr} {ta:TDA}
theorem ajQ {px py pt kt k2 pt2} (hc:X.calm=true) (hN:X.N.Nodup) (hi:X.N[i]?=some x) (hj:X.N[j]?=some y) (hij:i≠j)
    (hx:X.env.scope.names.lookup x=some .local) (hy:X.env.scope.names.lookup y=some .local) (ha:DA X W [a,b] ta)
    (hw:swappedStores [.Tuple [.Name x px,.Name y py] kt pt] (.Tuple [a,b] k2 pt2) X.env=pure (some [x,y]))
    (hs:swapsWithSole [.Tuple [.Name x px,.Name y py] kt pt] (.Tuple [a,b] k2 pt2) pos.line X.env=pure false:=by rfl) :
    DS X W (.Assign [.Tuple [.Name x px,.Name y py] kt pt] (.Tuple [a,b] k2 pt2) pos) (dPar i j ta):=by
  refine aje (ps_par hc hN hi hj hij hx hy ha hw hs) fun D σ H hl ⟨G,so,sl,E,rep,q,ok⟩=>?_
  have li:i < σ.length:=by rw [hl];exact (List.getElem?_eq_some_iff.mp hi).1
  have lj:j < σ.length:=by rw [hl];exact (List.getElem?_eq_some_iff.mp hj).1
  refine ⟨G,so,sl,_,E.xc,rep,q,fun vs H1 G1 ds s1 p w z=>?_,ok.xc.ex⟩
  split at z
  · rename_i d1 d2
    obtain ⟨v1,v2,rfl,w1,w2,_⟩:=w.v2
    have n1:∀ o,DV.d d1≠.see o:=fun _ e=>(nomatch e)
    have n2:∀ o,DV.d d2≠.see o:=fun _ e=>(nomatch e)
    have p1:=(PostE.ofD (x:=d1) p w1).set li n1
    have p2:=(PostE.ofD (x:=d2) (Post.refl p1.rep) w2).set (i:=j) (by rw [List.length_set];exact lj) n2
    exact ⟨v1,v2,rfl,ok.nx _ H1 G1 _ (p1.trans p2) z⟩
  · exact z.elim
end
theorem alH {ta:TDA} {u:TDS} {E:EndsD} {sl s':DSt} {i j:Nat} (x y:D) (h:∀ Q:List DV->DSt->Prop,Q [.d x,.d y] s'->ta sl Q E.xc) (q:u E ((s'.set i (some (.d x))).set j (some (.d y)))):dSeq (dPar i j ta) u E sl:=h _ q
def tysD:List D->Option (List String)
  | []=>some []
  | .raw (.ty T)::r=>(tysD r).map (T::·)
  | _=>none
def kitBs (t:String):List String->Option Bool
  | []=>some false
  | T::r=>match kitB t T with
    | some true=>some true
    | some false=>kitBs t r
    | none=>none
def rIsiS (K:PySem.W.Frag):List V->Hp->VK->Prop:=fun xs H Q=>∃ (x:V) (tp:Addr) (cs:List V) (t:Value) (us:List Value) (b:Bool),xs=[x,.ref tp]/\SqT K H tp cs/\Paired ClsV cs us/\TyX K H x t/\PySem.W.kitAny K t us=some b/\Q (.bl b) H
theorem ahf {X:Cx}:CallR X (.builtin "isinstance") (rIsiS X.K):=by
  intro pins s σ H xs us Q I r h
  obtain ⟨x,tp,cs,t,ws,b,rfl,hT,k,ty,e,q⟩:=h
  obtain ⟨u1,u2,rfl,r1,r2⟩:=vals2 r
  cases (show u2=Value.ref tp from r2)
  obtain ⟨P,Z,p,hx⟩:=kit_of I r1 ty
  obtain ⟨its,rv,⟨o,h1,h2,n,h3⟩,_⟩:=I.tuple hT
  have e3:=ClsV.all k rv
  subst e3
  obtain ⟨oc,od,dt,sl⟩:=o
  simp only at h2 h3
  subst h2 h3
  exact PySem.W.kia_tup Z I.kIn p h1 e hx fun tk=>⟨.bl b,H,I.tok tk,rfl,q⟩
@[irreducible] def isiTR:List DV->(DV->Prop)->Prop
  | [v,.d (.tup ts)],Q=>match v.dat,tysD ts with
    | some d,some Ts=>match tyD d with
      | some t=>match kitBs t Ts with
        | some b=>Q (.d (.bl b))
        | none=>False
      | none=>False
    | _,_=>False
  | _,_=>False
theorem akQ {K:PySem.W.Frag} {G:Hp}:∀ {vs:List V} {ts:List D} {Ts:List String},DAll K G vs ts->tysD ts=some Ts->Paired ClsV vs (Ts.map Value.type)
  | _,_,_,.nil,e=>by cases e;exact .nil
  | _,_,_,.cons (d:=.raw (.ty T)) h t,e=>by
    unfold tysD at e
    rename_i ds
    cases z:tysD ds with
    | none=>rw [z] at e;cases e
    | some Us=>rw [z] at e;cases e;cases h;exact .cons (.ty _) (akQ t z)
theorem kits_ok {K:PySem.W.Frag} {t:String}:∀ {Ts:List String} {b:Bool},kitBs t Ts=some b->PySem.W.kitAny K (.type t) (Ts.map Value.type)=some b
  | [],_,e=>by cases e;rfl
  | T::r,b,e=>by
    unfold kitBs at e
    rw [List.map_cons]
    unfold PySem.W.kitAny
    split at e
    · rename_i h;cases e;rw [kit_ty h]
    · rename_i h;rw [kit_ty h];exact kits_ok e
    · cases e
theorem ahW {K:PySem.W.Frag}:CallSem K (rIsiS K) isiTR:=by
  intro G so H xs dxs Q R h w q k
  unfold isiTR at q
  split at q
  · obtain ⟨v,v',rfl,w1,w2,_⟩:=w.v2
    split at q
    · rename_i d Ts e1 e2
      split at q
      · rename_i t et
        split at q
        · rename_i b eb
          cases w2 with
          | tup sq al=>exact ⟨_,_,_,_,_,b,rfl,ex_t h.ex sq,akQ al e2,amF h w1 e1 et,kits_ok eb,k _ H G _ (.dat h (.bl _)) q⟩
        · exact q.elim
      · exact q.elim
    · exact q.elim
  · exact q.elim
theorem am4 {Q:DV->Prop} {v:DV} {d:D} {ts:List D} {Ts:List String} {t:String} {b:Bool} (h1:v.dat=some d) (h2:tysD ts=some Ts) (h3:tyD d=some t) (h4:kitBs t Ts=some b) (q:Q (.d (.bl b))):isiTR [v,.d (.tup ts)] Q:=by
  unfold isiTR
  dsimp only
  rw [h1,h2]
  dsimp only
  rw [h3]
  dsimp only
  rw [h4]
  exact q
theorem anq {K:PySem.W.Frag} {x qual:Str} {params:Arguments} {body:List Stmt} {scope:Scope} {kws:List (Str × V)} {f:Addr} {fd:FuncData} {ps ks:List Str} {n:Nat} {sel:List Sel} (F:FunD K x qual params body scope [] kws f fd) (ms:List (Str × V)) (hk:kws≠[]) (hms:∀ q∈ms,q∈kws) (g:{α:Type}->List α->List α->List α->List α)
    (hrel:∀ {vs mz zs:List V} {us mv ws:List Value},Vals vs us->Vals mz mv->Vals zs ws->Vals (g vs mz zs) (g us mv ws))
    (h:∀ (D:Addr) (doc pm:Value) (an:Option Addr) (cdv ct:Value) (us mv ws:List Value),us.length=n->mv.length=ms.length->ws.length=ks.length->
      KwChain D ((ms.map (·.1)).zip mv) (bindArgs (PySem.W.fnOf x qual params body scope .none (.ref D) doc pm an cdv ct) ⟨us,ks.zip ws⟩) (ps.zip (g us mv ws)))
    (hv:∀ (vs qs:List V),vs.length=n->qs.length=ks.length->sel.map (pickV vs qs)=g vs (ms.map (·.2)) qs) (hs:∀ s∈sel,∀ (v:V) (d:D),s=.dfl v d->∀ G,DOk K G v d):Bd K fd ps n ks sel:=by
  obtain ⟨mv,B⟩:=F.kbinds0 (ps:=ps) n ks ms g hk hms hrel h
  exact ⟨fun s us ws vs qs X l1 l2 r1 r2=>⟨_,B.to s us ws X l1 l2,by rw [hv vs qs (r1.length.trans l1) (r2.length.trans l2)];exact B.rel r1 r2⟩,hs⟩
abbrev rt (n d:Int):D:=.tup [.int n,.int d]
def rD (q:Rat):D:=rt q.num (q.den:Int)
def gcI (n d:Int):Int:=((Nat.gcd n.natAbs d.natAbs:Nat):Int)
theorem ajL {n d:Int} (h:0 < d):0 < gcI n d:=by
  unfold gcI
  have:0 < Nat.gcd n.natAbs d.natAbs:=Nat.gcd_pos_of_pos_right _ (by omega)
  omega
theorem ajs {n d:Int} (h:0 < d):(Rat.divInt n d).num=n / gcI n d:=by
  rw [Rat.num_divInt,Int.sign_eq_one_of_pos h,Int.one_mul]
  unfold gcI
  rw [Int.gcd_comm];rfl
theorem ajt {n d:Int} (h:0 < d):((Rat.divInt n d).den:Int)=d / gcI n d:=by
  rw [Rat.den_divInt,if_neg (by omega),Int.gcd_comm]
  show ((d.natAbs / Nat.gcd n.natAbs d.natAbs:Nat):Int)=d / ((Nat.gcd n.natAbs d.natAbs:Nat):Int)
  rw [Int.natCast_ediv,Int.natAbs_of_nonneg (by omega)]
theorem ai9 {n d:Int} (h:0 < d):rD (Rat.divInt n d)=rt (n / gcI n d) (d / gcI n d):=by
  unfold rD;rw [ajs h,ajt h]
theorem den_pos (q:Rat):(0:Int) < (q.den:Int):=by have:=q.den_pos;omega
theorem aer (q:Rat):Rat.divInt q.num (q.den:Int)=q:=Rat.num_divInt_den q
theorem af7 (p q:Rat):Rat.divInt (p.num * q.den + q.num * p.den) ((p.den:Int) * q.den)=p + q:=by
  have h1:(p.den:Int)≠0:=by have:=den_pos p;omega
  have h2:(q.den:Int)≠0:=by have:=den_pos q;omega
  rw [<- Rat.divInt_add_divInt _ _ h1 h2,aer,aer]
theorem akV (p q:Rat):decide (p.num * (q.den:Int) < q.num * p.den)=decide (p < q):=decide_eq_decide.mpr (Rat.lt_iff p q).symm
structure Nb (B:Nat) (q:Rat):Prop where
  n:q.num.natAbs < 2 ^ B
  d:q.den < 2 ^ B
theorem Nb.mono {B C:Nat} {q:Rat} (h:Nb B q) (le:B<=C):Nb C q:=⟨Nat.lt_of_lt_of_le h.n (Nat.pow_le_pow_right (by decide) le),Nat.lt_of_lt_of_le h.d (Nat.pow_le_pow_right (by decide) le)⟩
theorem amW {n d:Int} {B:Nat} (h:0 < d) (h1:n.natAbs < 2 ^ B) (h2:d.natAbs < 2 ^ B):Nb B (Rat.divInt n d):=by
  have g:=ajL (n:=n) h
  refine ⟨?_,?_⟩
  · rw [ajs h]
    have dv:gcI n d ∣ n:=by
      show ((Nat.gcd n.natAbs d.natAbs:Nat):Int) ∣ n
      exact Int.gcd_dvd_left n d
    rw [Int.natAbs_ediv_of_dvd dv]
    exact Nat.lt_of_le_of_lt (Nat.div_le_self _ _) h1
  · have e:=ajt (n:=n) h
    have:(Rat.divInt n d).den<=d.natAbs:=by
      have l:d / gcI n d<=d:=Int.ediv_le_self _ (by omega)
      omega
    exact Nat.lt_of_le_of_lt this h2
theorem ag0 {p q:Rat} {B C:Nat} (hp:Nb B p) (hq:Nb C q):Nb (B + C + 1) (p + q):=by
  rw [<- af7]
  have e:2 ^ (B + C + 1)=2 ^ B * 2 ^ C + 2 ^ B * 2 ^ C:=by rw [Nat.pow_succ,Nat.pow_add];omega
  refine amW (Int.mul_pos (den_pos p) (den_pos q)) ?_ ?_
  · have a1:(p.num * (q.den:Int)).natAbs < 2 ^ B * 2 ^ C:=by rw [Int.natAbs_mul];exact Nat.mul_lt_mul'' hp.n (by simpa using hq.d)
    have a2:(q.num * (p.den:Int)).natAbs < 2 ^ B * 2 ^ C:=by rw [Int.natAbs_mul,Nat.mul_comm];exact Nat.mul_lt_mul'' (by simpa using hp.d) hq.n
    rw [e]
    exact Nat.lt_of_le_of_lt (Int.natAbs_add_le _ _) (by omega)
  · have a1:((p.den:Int) * (q.den:Int)).natAbs < 2 ^ B * 2 ^ C:=by rw [Int.natAbs_mul];exact Nat.mul_lt_mul'' (by simpa using hp.d) (by simpa using hq.d)
    rw [e];omega
def kindD (d:D):Bool:=(tyD d).isSome
def wholeD:D->Bool
  | .int _=>true
  | _=>false
def numD (lo hi:Int):D->Bool
  | .int i=>decide (lo<=i) && decide (i<=hi)
  | _=>false
def ratioD:D->Bool
  | .tup [.int a,.int b]=>decide (1<=b) && decide (gcI a b=1)
  | _=>false
theorem adI {ds:List D} (h:ds.length≠2):ratioD (.tup ds)=false:=by
  unfold ratioD
  split
  · rename_i e;cases e;exact absurd rfl h
  · rfl
def pairK:D->Prop
  | .tup [a,b]=>kindD a=true/\kindD b=true
  | .kt _=>False
  | _=>True
def ratOf:D->Option Rat
  | .int i=>some (i:Rat)
  | .tup [.int a,.int b]=>if 1<=b/\gcI a b=1 then some (Rat.divInt a b) else none
  | _=>none
theorem ai8 (q:Rat):ratioD (rD q)=true:=by
  have h:=q.reduced
  have h0:=den_pos q
  show (decide ((1:Int)<=q.den) && decide (gcI q.num q.den=1))=true
  have e:gcI q.num q.den=1:=by
    unfold gcI
    have:Nat.gcd q.num.natAbs (q.den:Int).natAbs=1:=by simpa using h
    rw [this];rfl
  rw [e]
  have:(1:Int)<=q.den:=by omega
  simp [this]
theorem ratOf_rD (q:Rat):ratOf (rD q)=some q:=by
  have h:=ai8 q
  have h2:(decide ((1:Int)<=q.den) && decide (gcI q.num q.den=1))=true:=h
  rw [Bool.and_eq_true,decide_eq_true_eq,decide_eq_true_eq] at h2
  show (if 1<=(q.den:Int)/\gcI q.num q.den=1 then some (Rat.divInt q.num q.den) else none)=some q
  rw [if_pos h2,aer]
theorem amP {a b:Int} (h1:1<=b) (h2:gcI a b=1):rD (Rat.divInt a b)=rt a b:=by
  rw [ai9 (by omega),h2,Int.ediv_one,Int.ediv_one]
theorem aiR (a b:Int):SeqAt.shaped (.tuple [.int a,.int b])=true:=by simp [SeqAt.shaped,PyData.canLay0,PyData.canLayAll0,PyData.depth,PyData.depthAll]
theorem al3 {n:Bool} {p q:Rat} {Q:DV->Prop} (h:Q (.d (.bl (if n then !decide (p=q) else decide (p=q))))):eqR n (.d (rD p)) (.d (rD q)) Q:=by
  refine am8 (d:=rD p) (e:=rD q) (p:=.tuple [.int p.num,.int p.den]) (p':=.tuple [.int q.num,.int q.den]) rfl rfl rfl rfl (aiR _ _) (aiR _ _) (.inr (.inl ⟨_,rfl⟩)) ?_
  have e:PyData.eqv (.tuple [.int p.num,.int p.den]) (.tuple [.int q.num,.int q.den])=decide (p=q):=by
    simp only [PyData.eqv,PyData.eqvAll,Bool.and_true]
    rw [Bool.eq_iff_iff]
    simp only [Bool.and_eq_true,beq_iff_eq,decide_eq_true_eq]
    constructor
    · rintro ⟨h1,h2⟩
      exact Rat.ext h1 (by exact_mod_cast h2)
    · rintro rfl;exact ⟨rfl,rfl⟩
  rw [e];exact h
theorem aib (f:D->D):∀ (n:Nat) (lo:Int),(intsFrom lo n).map f=(List.range n).map fun (i:Nat)=>f (.int (lo + (i:Int)))
  | 0,_=>rfl
  | n + 1,lo=>by
    show f (.int lo)::(intsFrom (lo + 1) n).map f=_
    rw [aib f n (lo + 1),List.range_succ_eq_map,List.map_cons,List.map_map]
    congr 1
    · simp
    · apply List.map_congr_left
      intro i _
      show f (.int (lo + 1 + (i:Int)))=f (.int (lo + ((i + 1:Nat):Int)))
      congr 2
      omega
theorem adM {d:D}:∀ {n:Nat} {lo:Int},d∈intsFrom lo n->∃ i:Nat,i < n/\d=.int (lo + (i:Int))
  | 0,_,h=>by cases h
  | n + 1,lo,h=>by
    rcases List.mem_cons.mp (show d∈D.int lo::intsFrom (lo + 1) n from h) with e | e
    · exact ⟨0,by omega,by rw [e];simp⟩
    · obtain ⟨i,h1,h2⟩:=adM e
      exact ⟨i + 1,by omega,by rw [h2];congr 1;omega⟩
theorem ale {α:Type} {f:α->D} {xs:List α} {i:Nat} {x:α} (h:xs[i]?=some x):atI (xs.map f) (i:Int)=some (f x):=by
  have hi:i < xs.length:=(List.getElem?_eq_some_iff.mp h).1
  unfold atI ixN
  rw [if_pos (by omega),if_pos (by rw [List.length_map];omega),Int.toNat_natCast]
  show (List.map f xs)[i]?=_
  rw [List.getElem?_map,h]
  rfl
section
variable {prog:Program} {w:World} {A:Around} {E:Value->Shared->Prop} {s:Shared} {K:PySem.W.Frag} {C x t:Addr} {name:Str} {v:Value} {B:String} {bmB:List Value} {Q:Unit->Shared->Prop}
structure StK (K:PySem.W.Frag) (C:Addr) (bmB:List Value):Prop where
  sa:PySem.W.findIn K (.ref C) "__setattr__"=some (some (.builtin "object.__setattr__"))
  ov:PySem.W.excOver K C bmB=true
  hd:PySem.W.hasDictIn K C=true
theorem aiT (SF:PySem.StoreFacts B bmB "object.__setattr__" "object") (X:K.In s.heap) (T:StK K C bmB) (hx:s.heap.get? x=some (PySem.W.excObj C t none .none)) (ht:PySem.W.takerIn K C name=some none)
    (h:∀ h' tk dx,(∀ b o,b≠x->s.heap.get? b=some o->h'.get? b=some o)->s.heap.get? dx=none->h'.get? x=some (PySem.W.excObj C t (some dx) .none)->h'.Ns1 dx (fun y=>if y=name then some v else none)->Q () { s with heap:=h',toks:=tk }) :
    wpAny (model prog w) A (setAttr (.ref x) name v) Q E s:=by
  have I:PySem.W.InstAt s.heap x (PySem.W.excObj C t none .none) C none:=⟨hx,rfl,rfl,trivial⟩
  refine PySem.W.set_plain X I T.sa (PySem.W.osa_openX (s:={ s with toks:=s.toks + 1 }) SF X I T.ov ht fun b=>?_)
  obtain ⟨cd,hc,hd⟩:=PySem.W.any_some T.hd
  refine wpAny_bind (wpAny_pure (wpAny_bind (PySem.W.instanceDict_exc (s:={ s with toks:=s.toks + 1 }) hx (PySem.W.looks_clsIn X hc) hd ?_)))
  show wpAny _ _ (Builtin.ObjectAttr.storeInDict s.heap.objs.size _ name v) _ _ _
  have lt:=Heap.lt_size hx
  refine HandSPX.store_in_new ⟨_,#[],_,(Heap.get?_update_ne _ _ _ _ (Nat.ne_of_gt lt)).trans (Heap.get?_push_at rfl rfl),rfl,fun e he=>absurd he (by simp),fun _=>rfl⟩ fun h' tk hn hs=>?_
  refine h h' tk s.heap.objs.size (fun b o hb ho=>?_) (Heap.get?_none_of_le (Nat.le_refl _)) ?_ hn
  · exact (hs.2 b (Nat.ne_of_lt (Heap.lt_size ho))).trans ((Heap.get?_update_ne _ _ _ _ hb).trans (Heap.get?_push_of_some _ ho))
  · refine (hs.2 x (Nat.ne_of_lt lt)).trans ?_
    exact Heap.get?_update_self _ (Heap.get?_push_of_some _ hx) rfl
theorem akb {dx:Addr} {m0:Str->Option Value} {nl:List Str} (SF:PySem.StoreFacts B bmB "object.__setattr__" "object") (X:K.In s.heap) (T:StK K C bmB) (hx:s.heap.get? x=some (PySem.W.excObj C t (some dx) .none)) (ht:PySem.W.takerIn K C name=some none)
    (hn:s.heap.Ns1 dx m0) (hw:Within m0 nl) (hz:nl.length<=1000)
    (h:∀ h' tk,(∀ b o,b≠dx->s.heap.get? b=some o->h'.get? b=some o)->h'.Ns1 dx (fun y=>if y=name then some v else m0 y)->Q () { s with heap:=h',toks:=tk }) :
    wpAny (model prog w) A (setAttr (.ref x) name v) Q E s:=by
  obtain ⟨oD,_,_,hoD,_,_⟩:=hn.count hw
  have I:PySem.W.InstAt s.heap x (PySem.W.excObj C t (some dx) .none) C (some oD):=⟨hx,rfl,rfl,hoD⟩
  refine PySem.W.set_plain X I T.sa (PySem.W.osa_openX (s:={ s with toks:=s.toks + 1 }) SF X I T.ov ht fun b=>?_)
  obtain ⟨cd,hc,hd⟩:=PySem.W.any_some T.hd
  refine wpAny_bind (wpAny_pure (wpAny_bind (wpAny_bind (wpAny_loadPart hx (wpAny_bind (PySem.W.Looks.here (s:={ s with toks:=s.toks + 1 }) (PySem.W.looks_clsIn X hc) ?_))))))
  rw [hd]
  refine wpAny_pure (a:=some dx) ?_
  exact PySem.OEX.store_in_old hn hw hz fun h' tk hn' hs=>h h' tk (fun b o hb ho=>(hs.2 b hb).trans ho) hn'
end
inductive Sts (self:Str):List Stmt->List (Str × (Str ⊕ Str))->Prop
  | nil:Sts self [] []
  | con {f m:Str} {j:Nat} {p1 p2 p3 pos:Pos} {rest:List Stmt} {fs:List (Str × (Str ⊕ Str))} (hs:∀ env,swapsWith (.Constant (.str m) j p3) (some (.Attribute (.Name self p1) f p2)) pos.line env=pure false) (r:Sts self rest fs) :
      Sts self (.Assign [.Attribute (.Name self p1) f p2] (.Constant (.str m) j p3) pos::rest) ((f,.inl m)::fs)
  | var {f x:Str} {p1 p2 p3 pos:Pos} {rest:List Stmt} {fs:List (Str × (Str ⊕ Str))} (hs:∀ env,swapsWith (.Name x p3) (some (.Attribute (.Name self p1) f p2)) pos.line env=pure false) (hd:(x == ("__debug__":Str))=false) (r:Sts self rest fs) :
      Sts self (.Assign [.Attribute (.Name self p1) f p2] (.Name x p3) pos::rest) ((f,.inr x)::fs)
def fldV (val:Str->V):List (Str × (Str ⊕ Str))->List (Str × V)->List (Str × V)
  | [],acc=>acc
  | (f,.inl m)::r,acc=>fldV val r ((f,.str m)::acc)
  | (f,.inr x)::r,acc=>fldV val r ((f,val x)::acc)
structure ExAt (h1:Heap) (C e t:Addr) (fs:List (Str × V)) (s:Shared):Prop where
  keep:∀ b o,b≠e->h1.get? b=some o->s.heap.get? b=some o
  at_:(fs=[]/\s.heap.get? e=some (PySem.W.excObj C t none .none))\/∃ dx mA,h1.get? dx=none/\s.heap.get? e=some (PySem.W.excObj C t (some dx) .none)/\s.heap.Ns1 dx mA/\∀ f,RelO (fs.lookup f) (mA f)
section
variable {prog:Program} {w:World} {A:Around} {E:Value->Shared->Prop} {K:PySem.W.Frag} {C e t L:Addr} {B:String} {bmB:List Value} {h1:Heap} {env:Env} {m:Str->Option Value} {self:Str} {val:Str->V}
theorem ai1 {f:Str} {u:Value} {y:V} {fs:List (Str × V)} {s:Shared} {Q:Unit->Shared->Prop} (SF:PySem.StoreFacts B bmB "object.__setattr__" "object") (T:StK K C bmB) (X:K.In s.heap) (a:ExAt h1 C e t fs s) (e1:∃ o,h1.get? e=some o) (hl:fs.length<=900) (ht:PySem.W.takerIn K C f=some none) (ry:RelV y u)
    (h:∀ h' tk,ExAt h1 C e t ((f,y)::fs) { s with heap:=h',toks:=tk }->Q () { s with heap:=h',toks:=tk }):wpAny (model prog w) A (setAttr (.ref e) f u) Q E s:=by
  rcases a.at_ with ⟨rfl,hx⟩ | ⟨dx,mA,nd,hx,hn,rel⟩
  · refine aiT SF X T hx ht fun h' tk dx k nd hx' hn=>h h' tk ⟨fun b o hb ho=>k b o hb (a.keep b o hb ho),.inr ⟨dx,_,?_,hx',hn,relO_put (fs:=[]) ry fun g=>True.intro⟩⟩
    cases z:h1.get? dx with
    | none=>rfl
    | some o=>
      by_cases q:dx=e
      · subst q;rw [hx] at nd;cases nd
      · rw [a.keep dx o q z] at nd;cases nd
  · refine akb SF X T hx ht hn (within_of rel) (by rw [List.length_map];omega) fun h' tk k hn'=>h h' tk ⟨fun b o hb ho=>k b o (fun z=>?_) (a.keep b o hb ho),.inr ⟨dx,_,nd,k e _ (fun z=>?_) hx,hn',relO_put ry rel⟩⟩
    · rw [z,nd] at ho;cases ho
    · obtain ⟨o,ho⟩:=e1
      rw [z,nd] at ho;cases ho
theorem alz (SF:PySem.StoreFacts B bmB "object.__setattr__" "object") (T:StK K C bmB) (hk:env.scope.kind=.function) (hn:h1.Ns env.locals m) (nL:env.locals≠e) (Kh:K.In h1) (Ke:K.lookup e=none) (e1:∃ o,h1.get? e=some o) (hself:env.kindOf self=some .local) (ms:m self=some (.ref e)) (hsd:(self == ("__debug__":Str))=false) :
    ∀ {body:List Stmt} {fs:List (Str × (Str ⊕ Str))},Sts self body fs->(∀ f∈fs,PySem.W.takerIn K C f.1=some none)->(∀ f∈fs,∀ x,f.2=.inr x->env.kindOf x=some .local/\∃ u,m x=some u/\RelV (val x) u)->
      ∀ {acc:List (Str × V)} {s:Shared} {Q:Flow->Shared->Prop},acc.length + fs.length<=900->ExAt h1 C e t acc s->(∀ h' tk,ExAt h1 C e t (fldV val fs acc) { s with heap:=h',toks:=tk }->Q .next { s with heap:=h',toks:=tk })->
      wpAny (model prog w) A (execs body env) Q E s:=by
  have nsK:∀ {s:Shared} {acc:List (Str × V)},ExAt h1 C e t acc s->s.heap.Ns env.locals m:=fun {s acc} a=>by
    obtain ⟨o,es,ep,e2,r⟩:=hn
    exact ⟨o,es,ep,a.keep _ _ nL e2,r⟩
  have inK:∀ {s:Shared} {acc:List (Str × V)},ExAt h1 C e t acc s->K.In s.heap:=fun {s acc} a b o q=>a.keep b o (fun z=>by subst z;rw [Ke] at q;cases q) (Kh b o q)
  intro body fs st
  induction st with
  | nil=>intro _ _ acc s Q _ a h;exact wpAny_execs_nil (h s.heap s.toks a)
  | @con f m' j p1 p2 p3 pos rest fs hs r ih=>
    intro h1' h2' acc s Q hl a h
    refine wpAny_execs_cons (plainObj_wpAny_Assign_Attribute (Calls.Constant_str ?_) (hs env))
    have a1:ExAt h1 C e t acc { s with toks:=s.toks + 1 }:=⟨a.keep,a.at_⟩
    refine wpAny_Name (wpAny_loadName_local hk hself (nsK a1) ms ?_) hsd
    refine ai1 SF T (inK a1) a1 e1 (by rw [List.length_cons] at hl;omega) (h1' _ (List.mem_cons_self ..)) (y:=.str m') ⟨_,rfl⟩ fun h' tk a2=>?_
    exact ih (fun f hf=>h1' f (List.mem_cons_of_mem _ hf)) (fun f hf=>h2' f (List.mem_cons_of_mem _ hf)) (by rw [List.length_cons] at hl ⊢;omega) a2 fun h'' tk' a3=>h h'' tk' a3
  | @var f x p1 p2 p3 pos rest fs hs hd r ih=>
    intro h1' h2' acc s Q hl a h
    obtain ⟨kx,u,mx,ru⟩:=h2' _ (List.mem_cons_self ..) x rfl
    refine wpAny_execs_cons (plainObj_wpAny_Assign_Attribute (wpAny_Name (wpAny_loadName_local hk kx (nsK a) mx ?_) hd) (hs env))
    refine wpAny_Name (wpAny_loadName_local hk hself (nsK a) ms ?_) hsd
    refine ai1 SF T (inK a) a e1 (by rw [List.length_cons] at hl;omega) (h1' _ (List.mem_cons_self ..)) ru fun h' tk a2=>?_
    exact ih (fun f hf=>h1' f (List.mem_cons_of_mem _ hf)) (fun f hf=>h2' f (List.mem_cons_of_mem _ hf)) (by rw [List.length_cons] at hl ⊢;omega) a2 fun h'' tk' a3=>h h'' tk' a3
end
structure ExBase (B newId initId:String) (bmB:List Value):Prop where
  fb:PySem.ExcBaseFacts B newId initId bmB
  kf:PySem.W.KxsFacts B initId
  sf:PySem.StoreFacts B bmB "object.__setattr__" "object"
structure ExK (K:PySem.W.Frag) (file:Str) (C fI:Addr) (params:Arguments) (body:List Stmt) (scope:Scope) (B newId initId:String) (bmB:List Value):Prop where
  st:StK K C bmB
  q:PySem.W.excInitIn K C bmB newId=true
  hi:PySem.W.findIn K (.ref C) "__init__"=some (some (.ref fI))
  ff:PySem.W.typeIn K (.ref fI)=some (.type "function")
  sup:PySem.W.ks_superIn K C C "__init__"=some (some (.builtin initId))
  sub:PySem.W.subIn K (.ref C) (.type B)=some true
  own:PySem.W.mroIn K C (.ref C)=some true
  exC:PySem.W.subIn K (.ref C) (.type "BaseException")=some true
  tyC:PySem.W.typeIn K (.ref C)=some (.type "type")
  kC:PySem.W.keepIn K (.ref C)=true
  op:PySem.W.nsIn K cStatics "thirdparty.any"=some none
  fn:∃ (oc:Value) (od:Option Addr) (osl:Array (Option Value)) (name qual:Str) (doc pm:Value) (an:Option Addr) (cda cc:Addr) (ct:Value) (vs:Array Value) (tf:Tok) (ccl cl:Value) (cdd cld:Option Addr) (ccs csl:Array (Option Value)),
    K.lookup fI=some ⟨oc,od,.func (PySem.W.ksFn name qual params body scope .none .none doc pm an (.ref cda) ct cc),osl⟩/\PySem.W.codeIn K (.ref cda) qual=true/\K.lookup cda=some ⟨ccl,cdd,.fields vs,ccs⟩/\vs[2]?=some (.str file tf)/\K.lookup cc=some ⟨cl,cld,.cell (some (.ref C)),csl⟩
structure ExT (body:List Stmt) (params:Arguments) (scope:Scope) (sf:Str) (ps:List Str) (fs:List (Str × (Str ⊕ Str))):Prop where
  shape:∃ p0 p1 p2 p3 p4 p5 msg j rest,body=.Expr (.Call (.Attribute (.Call (.Name "super" p0) [] [] p1) "__init__" p2) [.Constant (.str msg) j p3] [] p4) p5::rest/\Sts sf rest fs/\
    (∀ env:Env,∃ pl:Sem Bool,eval (.Call (.Attribute (.Call (.Name "super" p0) [] [] p1) "__init__" p2) [.Constant (.str msg) j p3] [] p4) env=(do
      let ov <- attributeBase (.Call (.Name "super" p0) [] [] p1) "__init__" env (eval (.Call (.Name "super" p0) [] [] p1) env)
      standAt p2.atName
      let (f,first) <- holding [ov] (getMethod ov "__init__" pl)
      callWith p4 f first (backTo p4 (starEach [.Constant (.str msg) j p3] env)) []))/\
    (∀ env:Env,env.scope.kind=.function->interactive env=false)/\∀ env:Env,swapsWith (.Call (.Attribute (.Call (.Name "super" p0) [] [] p1) "__init__" p2) [.Constant (.str msg) j p3] [] p4) none p5.line env=pure false
  head:∃ ar,(params.posonlyargs++params.args).head?=some ar/\ar.arg=sf
  ks:scope.names.lookup ("super":Str)=some .globalImplicit
  kc:scope.names.lookup ("__class__":Str)=some .free
  loc:∀ x∈sf::ps,scope.names.lookup x=some .local
  kind:scope.kind=.function
  co:scope.isCoroutine=false
  gen:scope.isGenerator=false
  cell:∀ x∈scope.names,x.2≠.cell
  flds:∀ f∈fs,∀ x,f.2=.inr x->x∈ps
  nod:(sf::ps).Nodup
  sd:(sf == ("__debug__":Str))=false
  len:fs.length<=900
section
variable {prog:Program} {w:World} {A:Around} {R:Result->Shared->Prop} {s:Shared} {K:PySem.W.Frag} {mg mb:Str->Option Value} {file:Str} {C fI e t:Addr} {params:Arguments} {body:List Stmt} {scope:Scope} {B newId initId:String} {bmB:List Value} {self:Str} {ps:List Str} {fs:List (Str × (Str ⊕ Str))} {us:List Value} {vs:List V} {val:Str->V}
theorem afG:∀ {ps:List Str} {us:List Value} {vs:List V} {x:Str},Vals vs us->vs.length=ps.length->ps.Nodup->x∈ps->∃ u v,(ps.zip us).reverse.lookup x=some u/\(ps.zip vs).lookup x=some v/\RelV v u
  | [],_,_,_,_,_,_,h=>by cases h
  | p::ps,_,_,x,.nil,hl,_,_=>by cases hl
  | p::ps,u::us,v::vs,x,.cons r rs,hl,hn,hx=>by
    rw [List.zip_cons_cons,List.zip_cons_cons,List.reverse_cons,List.lookup_append,List.lookup_cons]
    obtain ⟨np,hn'⟩:=List.nodup_cons.mp hn
    have out:∀ (y:Str),y∉ps->(ps.zip us).reverse.lookup y=none:=fun y hy=>by
      rw [List.lookup_eq_none_iff]
      intro q hq
      have:=(List.of_mem_zip (List.mem_reverse.mp hq)).1
      rw [bne_iff_ne]
      intro z
      exact hy (z ▸ this)
    rcases List.mem_cons.mp hx with rfl | hx
    · rw [out _ np]
      refine ⟨u,v,?_,?_,r⟩
      · simp [List.lookup]
      · simp
    · have ne:(x == p)=false:=by rw [beq_eq_false_iff_ne];intro z;exact np (z ▸ hx)
      obtain ⟨u',v',h1,h2,h3⟩:=afG rs (by simpa using hl) hn' hx
      refine ⟨u',v',?_,?_,h3⟩
      · rw [h1];rfl
      · rw [List.lookup_cons,ne];exact h2
theorem akh (XB:ExBase B newId initId bmB) (EK:ExK K file C fI params body scope B newId initId bmB) (ET:ExT body params scope self ps fs) (X:K.In s.heap) (G:s.heap.Ns mainGlobals mg) (hsu:mg ("super":Str)=none) (Bn:s.heap.Ns builtinsNs mb) (hbn:mb ("super":Str)=some (.type "super")) (lim:s.heap.NoLimit)
    (hfile:((prog.main.file:Str) == file)=true) (htop:(prog.main.scope.names.lookup ("super":Str)).isSome=false) (hroom:A.depth < recursionLimit) (he:s.heap.get? e=some (PySem.W.excObj C t none .none)) (Ke:K.lookup e=none)
    (rv:Vals vs us) (hl:vs.length=ps.length) (hbind:∀ (name qual:Str) (doc pm:Value) (an:Option Addr) (cda ct:Value) (cc:Addr),bindArgs (PySem.W.ksFn name qual params body scope .none .none doc pm an cda ct cc) ⟨.ref e::us,[]⟩=pure ((self::ps).zip (.ref e::us)))
    (ht:∀ f∈fs,PySem.W.takerIn K C f.1=some none)
    (h:∀ h' tk t',ExAt s.heap C e t' (fldV (fun x=>((ps.zip vs).lookup x).getD .non) fs []) { s with heap:=h',toks:=tk }->R (.ok (.ret .none)) { s with heap:=h',toks:=tk }) :
    codeAny (model prog w) A (.call (.ref fI) ⟨.ref e::us,[]⟩) R s:=by
  obtain ⟨oc,od,osl,name,qual,doc,pm,an,cda,cc,ct,cvs,tf,ccl,cl,cdd,cld,ccs,csl,lk,hcd,lkc,hv2,lcc⟩:=EK.fn
  obtain ⟨p0,p1,p2,p3,p4,p5,msg,j,rest,hbd,hst,hev,hint,hsw⟩:=ET.shape
  obtain ⟨ar,har,hself⟩:=ET.head
  have hlen:us.length=ps.length:=by rw [<- rv.length];exact hl
  have hlcl:∀ x∈(self::ps).zip (Value.ref e::us),scope.names.lookup x.1=some .local:=fun x hx=>ET.loc x.1 (List.of_mem_zip hx).1
  refine ks_codeAny_call_defAt (fd:=PySem.W.ksFn name qual params body scope .none .none doc pm an (.ref cda) ct cc) (body:=body) (binds:=(self::ps).zip (Value.ref e::us)) hroom (X _ _ lk) rfl lim (PySem.W.codeRec_of X hcd) rfl (BindsTo.of_eq (hbind _ _ _ _ _ _ _ _)) ET.cell hlcl (fun h1 hns k1=>?_) ET.co ET.gen ET.kind
  have L:Addr:=s.heap.objs.size
  generalize henv:callEnv (PySem.W.ksFn name qual params body scope .none .none doc pm an (.ref cda) ct cc) s.heap.objs.size fI=env at *
  have eloc:env.locals=s.heap.objs.size:=by rw [<- henv];rfl
  have esc:env.scope=scope:=by rw [<- henv];rfl
  have ekd:∀ y,env.kindOf y=scope.names.lookup y:=fun y=>by rw [<- henv];rfl
  have ekf:env.scope.kind=.function:=by rw [esc];exact ET.kind
  have X1:K.In h1:=fun b o q=>k1 b o (X b o q)
  have he1:=k1 _ _ he
  have nL:env.locals≠e:=by rw [eloc];exact Nat.ne_of_gt (Heap.lt_size he)
  rw [<- eloc] at hns
  have all:=rv
  have key:∀ x∈ps,∃ u v,((self::ps).zip (Value.ref e::us)).reverse.lookup x=some u/\(ps.zip vs).lookup x=some v/\RelV v u:=fun x hx=>by
    obtain ⟨u,v,z1,z2,z3⟩:=afG rv hl (List.nodup_cons.mp ET.nod).2 hx
    refine ⟨u,v,?_,z2,z3⟩
    rw [List.zip_cons_cons,List.reverse_cons,List.lookup_append,z1];rfl
  have kself:((self::ps).zip (Value.ref e::us)).reverse.lookup self=some (.ref e):=by
    rw [List.zip_cons_cons,List.reverse_cons,List.lookup_append]
    have:(ps.zip us).reverse.lookup self=none:=by
      rw [List.lookup_eq_none_iff]
      intro q hq
      have:=(List.of_mem_zip (List.mem_reverse.mp hq)).1
      rw [bne_iff_ne]
      intro z
      exact (List.nodup_cons.mp ET.nod).1 (z ▸ this)
    rw [this];simp [List.lookup]
  rw [hbd]
  obtain ⟨pl,hpl⟩:=hev env
  refine ks_wpAt_execs_cons (ks_wpAt_Expr_any (ks_wpAt_MethodCall ?_ hpl) (hint env ekf) (hsw env))
  refine ks_wpAt_super_base (ar:=ar) ((ekd _).trans ET.ks) ((ekd _).trans ET.kc) (by decide) (f:=fI) (by rw [<- henv];rfl) (X1 _ _ lk) rfl har (cc:=cda) (by rw [<- henv];rfl) (X1 _ _ lkc) rfl hv2 hfile htop ?_
  obtain ⟨cd,hcdC,hdC⟩:=PySem.W.any_some EK.st.hd
  obtain ⟨oD,hD1,hD2⟩:∃ oD,h1.get? C=some oD/\oD.data=.cls cd:=by
    unfold PySem.W.clsIn at hcdC
    split at hcdC
    · rename_i c d cd' sl ho
      cases hcdC
      exact ⟨_,X1 _ _ ho,rfl⟩
    · cases hcdC
  have G1:h1.Ns mainGlobals mg:=by obtain ⟨o,es,ep,e2,r⟩:=G;exact ⟨o,es,ep,k1 _ _ e2,r⟩
  have B1:h1.Ns builtinsNs mb:=by obtain ⟨o,es,ep,e2,r⟩:=Bn;exact ⟨o,es,ep,k1 _ _ e2,r⟩
  have I1:PySem.W.InstAt h1 e (PySem.W.excObj C t none .none) C none:=⟨he1,rfl,rfl,trivial⟩
  have hneC:e≠C:=PySem.W.ks_ne X1 I1 hcdC
  refine PySem.W.ks_loadName_global ekf ((ekd _).trans ET.ks) (Calls.loadGlobal_builtin (by rw [<- henv];exact G1) hsu (by rw [<- henv];exact B1) hbn ⟨rfl,?_⟩)
  refine wpAny_loadName_free ekf ((ekd _).trans ET.kc) (c:=cc) (by rw [<- henv];rfl) ⟨_,X1 _ _ lcc,rfl⟩ ?_
  rw [hself]
  refine wpAny_loadName_local ekf ((ekd _).trans (ET.loc _ (List.mem_cons_self ..))) hns kself ?_
  refine ks_wpAny_isType_cls hD1 hD2 ⟨rfl,?_⟩
  refine ks_wpAny_call_super hD1 hD2 he1 rfl (fun c z=>by cases z) (PySem.W.looks_mroIn X1 EK.own) (fun h2 so2 k2=>?_)
  have X2:K.In h2:=fun b o q=>k2 b o (X1 b o q)
  have he2:=k2 _ _ he1
  have I2:PySem.W.InstAt h2 e (PySem.W.excObj C t none .none) C none:=⟨he2,rfl,rfl,trivial⟩
  have hsup:=EK.sup
  unfold PySem.W.ks_superIn at hsup
  rw [hcdC] at hsup
  refine PySem.W.kxs_getMethod XB.kf so2 (PySem.W.looks_opaque X2 EK.op) (l₀:=cd.mro) (fun A Q E s k q=>wpAny_bind ((PySem.W.looks_clsIn X2 hcdC) A _ E s k (wpAny_pure q))) rfl X2 hsup (I2.type.andThen (PySem.W.looks_subIn X2 EK.sub)) hneC (by decide) ?_
  generalize hu:h2.objs.size=u
  have hu3:(h2.push (PySem.W.kxs_mw initId e)).get? u=some (PySem.W.kxs_mw initId e):=by rw [<- hu];exact Heap.get?_push_at rfl rfl
  have k3:∀ b o,h2.get? b=some o->(h2.push (PySem.W.kxs_mw initId e)).get? b=some o:=fun b o q=>Heap.get?_push_of_some _ q
  refine PySem.W.kxs_callWith (i:=initId) (x:=e) rfl (Calls.evalArgs_plain (Calls.spliced_cons (Calls.Constant_str (k:=j) (pos:=p3) (Calls.spliced_nil ⟨hu3,?_⟩))))
  obtain ⟨nm,N',qn,bs,bm,hdct,sn,sub,ab,col,dd,k0,k1',k2',k3',k5,hC,hT⟩:=PySem.W.excInit_of (X:=(fun b o q=>k3 b o (X2 b o q):K.In (h2.push (PySem.W.kxs_mw initId e)))) EK.q
  refine wpAny_call (codeAny_of_tree ?_)
  show wpAny _ _ (callAny (.ref u) _) _ _ _
  simp only [callAny]
  refine wpAny_bind (wpAny_load hu3 ?_)
  simp only [PySem.W.kxs_mw,show (Value.type "method-wrapper" == Value.type "method" || Value.type "method-wrapper" == Value.type "builtin_function_or_method" || Value.type "method-wrapper" == Value.type "method-wrapper")=true by decide,if_true]
  refine PySem.W.KFB.if_so (by decide) ?_
  refine wpAny_bind (PySem.W.check_bound_init XB.fb.toExcCallFacts hC (k3 _ _ he2) rfl ?_)
  refine wpAny_bind (wpAny_pure (wpAny_pure ?_))
  refine ⟨plainId_quiet XB.fb.init.plain _,codeAny_builtin XB.fb.initEntry ?_⟩
  refine PySem.W.exc_init_tree (cls:=.ref C) (t0:=t) (dv:=none) (c2:=.none) (c3:=.none) (b4:=.bool false) (k3 _ _ he2) (by show 1<=sizeLine;decide) fun h4 k4 e4 t4=>?_
  have kk:∀ b o,b≠e->h1.get? b=some o->h4.get? b=some o:=fun b o hb q=>k4 b o hb (k3 b o (k2 b o q))
  show PySem.wpAt _ _ _ (execs rest env) _ _ _
  refine PySem.wpAt_of_wpAny ?_
  have hst1:∀ (s5:Shared),s5.heap=h4->ExAt h1 C e (h2.push (PySem.W.kxs_mw initId e)).objs.size [] s5:=fun s5 z=>⟨fun b o hb q=>by rw [z];exact kk b o hb q,.inl ⟨rfl,by rw [z];exact e4⟩⟩
  refine alz (h1:=h1) (K:=K) (C:=C) (e:=e) (m:=fun x=>((self::ps).zip (Value.ref e::us)).reverse.lookup x) (val:=fun x=>((ps.zip vs).lookup x).getD .non) XB.sf EK.st ekf hns nL X1 Ke ⟨_,he1⟩ ((ekd _).trans (ET.loc _ (List.mem_cons_self ..))) kself ET.sd hst ht (fun f hf x hx=>?_) (by rw [List.length_nil,Nat.zero_add];exact ET.len) (hst1 _ rfl) (fun h5 tk a=>?_)
  · have hxp:=ET.flds f hf x hx
    obtain ⟨u',v',z1,z2,z3⟩:=key x hxp
    exact ⟨(ekd _).trans (ET.loc _ (List.mem_cons_of_mem _ hxp)),u',z1,by rw [z2];exact z3⟩
  · refine h h5 tk (h2.push (PySem.W.kxs_mw initId e)).objs.size ⟨fun b o hb q=>a.keep b o hb (k1 b o q),?_⟩
    rcases a.at_ with z | ⟨dx,mA,z1,z2⟩
    · exact .inl z
    · refine .inr ⟨dx,mA,?_,z2⟩
      cases q:s.heap.get? dx with
      | none=>rfl
      | some o=>rw [k1 dx o q] at z1;cases z1
end
section
variable {X:Cx} {file:Str} {C fI:Addr} {params:Arguments} {body:List Stmt} {scope:Scope} {B newId initId:String} {bmB:List Value} {self:Str} {ps:List Str} {fs:List (Str × (Str ⊕ Str))} {x:Str} {p pos:Pos} {e:Expr} {es:List Expr} {ta:TA}
def xdV (ps:List Str) (fs:List (Str × (Str ⊕ Str))) (vs:List V):List (Str × V):=fldV (fun x=>((ps.zip vs).lookup x).getD .non) fs []
theorem amZ {pins:List (Addr × Obj)} {σ:L2.St} {H1:Hp} {s1:Shared} {us:List Value} {vs:List V} {Q:XK} (XB:ExBase B newId initId bmB) (EK:ExK X.K file C fI params body scope B newId initId bmB) (ET:ExT body params scope self ps fs)
    (hfile:((X.prog.main.file:Str) == file)=true) (htop:(X.prog.main.scope.names.lookup ("super":Str)).isSome=false) (hsu:X.mg ("super":Str)=none)
    (hbind:∀ (e:Addr) (us:List Value),us.length=ps.length->∀ (name qual:Str) (doc pm:Value) (an:Option Addr) (cda ct:Value) (cc:Addr),bindArgs (PySem.W.ksFn name qual params body scope .none .none doc pm an cda ct cc) ⟨.ref e::us,[]⟩=pure ((self::ps).zip (.ref e::us)))
    (ht:∀ f∈fs,PySem.W.takerIn X.K C f.1=some none) (hne:∀ vs,xdV ps fs vs≠[]) (hr:Room 2 X.A) (I1:Inv X pins σ H1 s1) (rv:Vals vs us) (hl:vs.length=ps.length) (hl2:vs.length<=1000) (q:∀ d,H1 d=none->Q (.ref C) (some d) (upd H1 d (.xd (xdV ps fs vs)))) :
    wpAny (model X.prog X.w) X.A (call (.ref C) us) (L2N.MkP X pins σ Q) X.xe s1:=by
  obtain ⟨nm,N',qn,bs,bm,hdct,sn,sub,ab,col,dd,k0,k1,k2,k3,k5,hC,hT⟩:=PySem.W.excInit_of I1.kIn EK.q
  obtain ⟨hp,g,dr,tk,os⟩:=s1
  have hus:us.length<=sizeLine:=by rw [<- rv.length,sizeLine_eq];omega
  obtain ⟨oI,hoI,hcI⟩:∃ oI,hp.get? fI=some oI/\oI.cls=.type "function":=by
    obtain ⟨o,ho,hc⟩:=Option.map_eq_some_iff.mp (show (X.K.lookup fI).map (·.cls)=some (.type "function") from EK.ff)
    exact ⟨o,I1.kIn _ _ ho,hc⟩
  refine wpAny_call (PySem.HandSPX.call_own XB.fb hT hC (PySem.W.looks_findIn I1.kIn EK.hi) (fun self=>PySem.W.exc_bind hoI hcI self) hus ?_)
  have kk:∀ b o,hp.get? b=some o->((hp.push (PySem.W.kdv_tup us)).push (PySem.HandSPX.excO C hp.objs.size)).get? b=some o:=fun b o e=>Heap.get?_push_of_some _ (Heap.get?_push_of_some _ e)
  have hget:((hp.push (PySem.W.kdv_tup us)).push (PySem.HandSPX.excO C hp.objs.size)).get? (hp.objs.size + 1)=some (PySem.W.excObj C hp.objs.size none .none):=by heap_get
  have lt:∀ {b:Addr} {o:Obj},hp.get? b=some o->b≠hp.objs.size + 1:=fun {b o} z=>Nat.ne_of_lt (Nat.lt_succ_of_lt (Heap.lt_size z))
  have Ke:X.K.lookup (hp.objs.size + 1)=none:=by
    cases z:X.K.lookup (hp.objs.size + 1) with
    | none=>rfl
    | some o=>exact absurd rfl (lt (I1.kIn _ _ z))
  generalize hh2:(hp.push (PySem.W.kdv_tup us)).push (PySem.HandSPX.excO C hp.objs.size)=h2 at *
  have KM:=I1.ok.mod
  obtain ⟨mb,nb,hbb⟩:=KM.blt
  have bk:∀ b o,X.base.get? b=some o->h2.get? b=some o:=fun b o z=>kk b o (I1.bk b o z)
  have nsb:∀ {b:Addr} {m:Str->Option Value},X.base.Ns b m->h2.Ns b m:=fun {b m} ⟨o,es,ep,e2,r⟩=>⟨o,es,ep,bk _ _ e2,r⟩
  have lim:h2.NoLimit:=by obtain ⟨mc,n1,n2⟩:=KM.nolimit;exact ⟨mc,nsb n1,n2⟩
  refine akh (s:=⟨h2,g,dr,tk,os⟩) (self:=self) (ps:=ps) (fs:=fs) (vs:=vs) (mg:=X.mg) (mb:=mb) XB EK ET (fun b o z=>bk b o (KM.kin b o z)) (nsb KM.glob) hsu (nsb nb) ((hbb _ (by decide)).trans PyProof.Rows.Boot.«super») lim hfile htop (hr.make C us []).depth hget Ke rv hl (hbind _ _ (by rw [<- rv.length];exact hl)) ht fun h' tk' t' a=>?_
  obtain ⟨ak,z | ⟨dx,mA,nd,hx,hn,rel⟩⟩:=a
  · exact absurd z.1 (hne vs)
  refine ⟨rfl,?_⟩
  have nd1:hp.get? dx=none:=by
    cases z:hp.get? dx with
    | none=>rfl
    | some o=>rw [kk dx o z] at nd;cases nd
  have dne:dx≠hp.objs.size + 1:=fun z=>by rw [z,hget] at nd;cases nd
  obtain ⟨G,g1,g2⟩:=restrict h' fun b=>decide (b≠hp.objs.size + 1)
  have gk:∀ b,b≠hp.objs.size + 1->G.get? b=h'.get? b:=fun b hb=>g1 b (decide_eq_true hb)
  have ge:G.get? (hp.objs.size + 1)=none:=g2 _ (by simp)
  have nH:H1 dx=none:=I1.hok.gone nd1
  have J:Inv X pins σ (upd H1 dx (.xd (xdV ps fs vs))) ⟨G,g,dr,tk',os⟩:=
    Inv.laidN (h':=G) (t':=tk') I1 (fun b o z=>by rw [gk b (lt z)];exact ak b o (lt z) (kk b o z)) nd1 nH ⟨mA,hn.at fun o y=>(gk dx dne).trans y,rel⟩
  refine ⟨hp.objs.size + 1,_,_,⟨G,g,dr,tk',os⟩,_,.ref C,some dx,rfl,J,fun b o z=>?_,ge,hx,⟨rfl,rfl,fun vs z=>by cases z;rfl⟩,rfl,rfl,?_,rfl,J.bare,raises_own EK.exC EK.tyC,q dx nH⟩
  · by_cases hb:b=hp.objs.size + 1
    · rw [hb,ge] at z;cases z
    · exact (gk b hb).symm.trans z
  · rw [upd_ne (Ne.symm dne)]
    exact I1.hok.fresh (Nat.le_succ _)
end
section
variable {K:PySem.W.Frag} {G G1:Hp} {so:So} {σ:L2.St} {H H1:Hp} {sl s1:DSt}
theorem Post.alloc {d:Addr} {o:HO} (p:Post K G so σ H sl H1 G1 s1) (n:H1 d=none) (nt:∀ xs,o≠.tup xs:=by intro _ z;cases z):Post K G so σ H sl (upd H1 d o) G1 s1:=by
  have pv:PostV K G1 so H1 .non (upd H1 d o) G1 (.d .non):=⟨Ex.refl G1,p.rep.h.alloc n nt,fun _ _ e _=>Ex.new n _ _ e,fun _ _ g _=>g,.non,fun _ _ e=>(nomatch e),fun _ e=>(nomatch e)⟩
  exact p.trans (pv.slots p.rep).toPost
end
def fldD (val:Str->D):List (Str × (Str ⊕ Str))->List (Str × D)->List (Str × D)
  | [],acc=>acc
  | (f,.inl m)::r,acc=>fldD val r ((f,.str m)::acc)
  | (f,.inr x)::r,acc=>fldD val r ((f,val x)::acc)
def xdD (ps:List Str) (fs:List (Str × (Str ⊕ Str))) (xs:List D):List (Str × D):=fldD (fun x=>((ps.zip xs).lookup x).getD .non) fs []
theorem ahG {K:PySem.W.Frag} {G:Hp} {val:Str->V} {vd:Str->D} (hv:∀ x,DOk K G (val x) (vd x)):∀ (fs:List (Str × (Str ⊕ Str))) {a:List (Str × V)} {b:List (Str × D)},FAll K G a b->FAll K G (fldV val fs a) (fldD vd fs b)
  | [],_,_,h=>h
  | (f,.inl m)::r,_,_,h=>ahG hv r (.cons (.str m) h)
  | (f,.inr x)::r,_,_,h=>ahG hv r (.cons (hv x) h)
theorem akO {K:PySem.W.Frag} {G:Hp} (x:Str):∀ {ps:List Str} {vs:List V} {xs:List D},DAll K G vs xs->DOk K G (((ps.zip vs).lookup x).getD .non) (((ps.zip xs).lookup x).getD .non)
  | [],_,_,_=>.non
  | _::_,_,_,.nil=>.non
  | p::ps,_,_,.cons h t=>by
    rw [List.zip_cons_cons,List.zip_cons_cons,List.lookup_cons,List.lookup_cons]
    cases x == p with
    | true=>exact h
    | false=>exact akO x t
theorem amv {K:PySem.W.Frag} {G:Hp} {ps:List Str} {fs:List (Str × (Str ⊕ Str))} {vs:List V} {xs:List D} (h:DAll K G vs xs):FAll K G (xdV ps fs vs) (xdD ps fs xs):=ahG (fun x=>akO x h) fs .nil
structure XCls (P:Program) (K:PySem.W.Frag) (mg:Str->Option Value) (C:Addr) (ps:List Str) (fs:List (Str × (Str ⊕ Str))):Prop where
  how:∃ file fI params body scope B newId initId bmB self,ExBase B newId initId bmB/\ExK K file C fI params body scope B newId initId bmB/\ExT body params scope self ps fs/\((P.main.file:Str) == file)=true/\(P.main.scope.names.lookup ("super":Str)).isSome=false/\
    (∀ (e:Addr) (us:List Value),us.length=ps.length->∀ (name qual:Str) (doc pm:Value) (an:Option Addr) (cda ct:Value) (cc:Addr),bindArgs (PySem.W.ksFn name qual params body scope .none .none doc pm an cda ct cc) ⟨.ref e::us,[]⟩=pure ((self::ps).zip (.ref e::us)))
  ht:∀ f∈fs,PySem.W.takerIn K C f.1=some none
  ne:∀ vs,xdV ps fs vs≠[]
  su:mg ("super":Str)=none
  kC:PySem.W.keepIn K (.ref C)=true
  ln:ps.length<=1000
def dRaise (C:Addr) (ps:List Str) (fs:List (Str × (Str ⊕ Str))) (ta:TDA):TDS:=fun E sl=>ta sl (fun ds s1=>match dats ds with
  | some xs=>xs.length=ps.length/\E.xc (.ref C) (xdD ps fs xs) s1
  | none=>False) E.xc
section
variable {X:Cx} {W:WX} {C:Addr} {ps:List Str} {fs:List (Str × (Str ⊕ Str))} {x:Str} {p pos rpos:Pos} {e:Expr} {es:List Expr} {ta:TDA} {tA:TA}
theorem XCls.make (T:XCls X.prog X.K X.mg C ps fs) (hr:Room 2 X.A) {pins:List (Addr × Obj)} {σ:L2.St} {H1:Hp} {s1:Shared} {us:List Value} {vs:List V} {Q:XK} (I1:Inv X pins σ H1 s1) (rv:Vals vs us) (hl:vs.length=ps.length)
    (q:∀ d,H1 d=none->Q (.ref C) (some d) (upd H1 d (.xd (xdV ps fs vs)))):wpAny (model X.prog X.w) X.A (call (.ref C) us) (L2N.MkP X pins σ Q) X.xe s1:=by
  obtain ⟨file,fI,params,body,scope,B,n1,n2,bmB,self,z1,z2,z3,z4,z5,z6⟩:=T.how
  exact amZ z1 z2 z3 z4 z5 T.su z6 T.ht T.ne hr I1 rv hl (by rw [hl];exact T.ln) q
def tMkX (C:Addr) (ps:List Str) (fs:List (Str × (Str ⊕ Str))) (tA:TA):L2.St->Hp->XK->Prop:=fun σ H Q=>tA σ H fun vs H1=>vs.length=ps.length/\∀ d,H1 d=none->Q (.ref C) (some d) (upd H1 d (.xd (xdV ps fs vs)))
theorem pmk_x (T:XCls X.prog X.K X.mg C ps fs) (hr:Room 2 X.A) (hg:Gl X x) (hm:X.mg x=some (.ref C)) (ha:PA X (e::es) tA) (hdb:(x == ("__debug__":Str))=false:=by decide) (he:starEach (e::es) X.env=(false,eval e X.env)::starEach es X.env:=by rfl) (hpl:(backTo pos (starEach es X.env)).any (·.1)=false:=by rfl) :
    L2N.PMk X (.Call (.Name x p) (e::es) [] pos) (tMkX C ps fs tA):=by
  intro pins s σ H Q I h
  refine wpAny_Call_Name_kw (ld_glob I hg hm ?_ hdb)
  exact PySem.W.callWith_K (h₀:=X.base) I.ok.mod.kin T.kC (thn (ha.run pos pins s σ H _ I h) fun us s1 ⟨vs,H1,I1,r1,hl,q⟩=>⟨I1.kIn,T.make hr I1 r1 hl q⟩) he hpl
theorem aj7 {K:PySem.W.Frag} {D:Ends} {σ:L2.St} {H:Hp} (h:upS K W (dRaise C ps fs ta) D σ H):tMkX C ps fs (upA K W ta) σ H fun cls d H'=>W cls d σ H':=by
  obtain ⟨G,so,sl,E,rep,q,ok⟩:=h
  refine ⟨G,so,sl,_,E.xc,rep,q,fun vs H1 G1 ds s1 p w q1=>?_,ok.xc.ex⟩
  split at q1
  · rename_i xs ed
    have al:=aev w ed
    refine ⟨al.length.trans q1.1,fun d nd=>?_⟩
    exact ok.xc (.ref C) (some d) σ _ G1 _ s1 (p.alloc nd).s ⟨_,upd_same,amv al⟩ q1.2
  · exact q1.elim
theorem adm (hc:X.calm=true) (tk:L2N.Takes X W) (T:XCls X.prog X.K X.mg C ps fs) (hr:Room 2 X.A) (hg:Gl X x) (hm:X.mg x=some (.ref C)) (ha:DA X W (e::es) ta) (hdb:(x == ("__debug__":Str))=false:=by decide) (he:starEach (e::es) X.env=(false,eval e X.env)::starEach es X.env:=by rfl) (hpl:(backTo pos (starEach es X.env)).any (·.1)=false:=by rfl) :
    DS X W (.Raise (some (.Call (.Name x p) (e::es) [] pos)) none rpos) (dRaise C ps fs ta):=ac8 (L2N.ps_raise hc tk (pmk_x T hr hg hm ha hdb he hpl)) fun D σ H h=>aj7 h
end
theorem akA {B h h':Heap} {l:List Env} {a:Addr} {Z:Obj->Prop} (k:∀ b o,h.get? b=some o->h'.get? b=some o) (f:HandSPX.FlyingZ B l a Z h):HandSPX.FlyingZ B l a Z h':=by
  obtain ⟨f1,f2,f3,oe,vs,T,oT,ts,e1,e2,e3,e4,e5,e6,e7,e8⟩:=f
  exact ⟨fun b o q=>k b o (f1 b o q),f2,Heap.FunFrames.of_keeps (fun b o q _=>⟨o,k b o q,rfl⟩) f3,oe,vs,T,oT,ts,k _ _ e1,e2,e3,e4,e5,e6,k _ _ e7,e8⟩
def wAs3 (K:PySem.W.Frag) (cs:List Value) (i:Nat) (ts:Addr->Value->Option Addr->TS) (Wout:WX) (D:Ends):WX:=fun cls d σ H=>
  ∃ b,PySem.W.exmAny K cls cs=some b/\(b=true->∀ a,H a=none->ts a cls d { nx:=fun σ' H'=>D.nx (σ'.set i none) H',rt:=D.rt,bk:=fun σ' H'=>D.bk (σ'.set i none) H',ct:=fun σ' H'=>D.ct (σ'.set i none) H' } (σ.set i (some (.ref a))) H)/\(b=false->Wout cls d σ H)
section
variable {X:Cx} {x1 x2 x3 n:Str} {c1 c2 c3:Value} {i k:Nat} {body suite:List Stmt} {b0:Stmt} {q1 q2 q3 tp pos pos':Pos} {tb:WX->TS} {ts:Addr->Value->Option Addr->TS} {Wout:WX}
theorem amX {Y:Cx} {pins:List (Addr × Obj)} {σ:L2.St} {H:Hp} {s:Shared} {Q E:Value->Shared->Prop} (S:Inv Y pins σ H s) (h1:Names Y x1 c1) (h2:Names Y x2 c2) (h3:Names Y x3 c3)
    (q:Q (.ref s.heap.objs.size) { s with heap:=s.heap.push { cls:=.type "tuple",data:=.seq [c1,c2,c3].toArray } }) :
    wpAny (model Y.prog Y.w) Y.A (eval (.Tuple [.Name x1 q1,.Name x2 q2,.Name x3 q3] k tp) Y.env) Q E s:=by
  have one:∀ {x:Str} {c:Value} {p:Pos} {R:Value->Shared->Prop},Names Y x c->R c s->wpAny (model Y.prog Y.w) Y.A (eval (.Name x p) Y.env) R E s:=fun {x c p R} hx r=>by
    obtain ⟨hg,hd,hm | ⟨hm,hv,hn⟩⟩:=hx
    · exact ld_glob S hg hm r hd
    · exact ld_blt S hg hm hv r hn hd
  refine wpAny_Tuple_spliced ?_
  refine Calls.spliced_cons (one h1 (Calls.spliced_cons (one h2 (Calls.spliced_cons (one h3 (Calls.spliced_nil ?_))))))
  exact ⟨by show 3<=sizeLine;decide,q⟩
theorem aiu (hs:X.stack=X.env::X.outer) (hf:X.env.frame=some X.env.locals) (hN:X.N.Nodup) (hi:X.N[i]?=some n) (hln:X.env.kindOf n=some .local) (h1:Names X x1 c1) (h2:Names X x2 c2) (h3:Names X x3 c3) (tk:L2N.Takes X Wout)
    (hb:∀ (W:WX) (pn:List (Addr × Obj)) (xe:Value->Shared->Prop),L2N.Takes (X.tr pn xe) W->PassesOwn (model X.prog X.w) X.A X.env xe->PSs (X.tr pn xe) body (tb W))
    (hsu:∀ (a:Addr) (oe:Obj) (cls:Value) (d:Option Addr) (pn:List (Addr × Obj)),L2N.Zn cls d oe->(∃ vs,oe.data=.fields vs)->PSs (X.suite a ((a,oe)::pn)) (b0::suite) (ts a cls d)) :
    PS X (.Try body [.ExceptHandler (some (.Tuple [.Name x1 q1,.Name x2 q2,.Name x3 q3] k tp)) (some n) (b0::suite) pos'] [] [] pos) (fun D σ H=>tb (wAs3 X.K [c1,c2,c3] i ts Wout D) D σ H):=by
  refine ⟨fun pins s σ H D I h=>?_⟩
  have Xok:=I.ok
  have frm:X.A.frames=some (X.env::X.outer):=by rw [Xok.frames,hs]
  refine wpAny_Try_except ?_
  let M:=model X.prog X.w
  let hd:ExceptHandler:=.ExceptHandler (some (.Tuple [.Name x1 q1,.Name x2 q2,.Name x3 q3] k tp)) (some n) (b0::suite) pos'
  let XH:Value->Shared->Prop:=fun e s1=>wpAny M X.A (noteFrame e X.env) (fun _ s2=>wpAny M X.A (setFlight e none) (fun _ s3=>wpAny M X.A (handleBy e X.env [hd]) (SP X pins D) X.xe s3) X.xe s2) X.xe s1
  have catches:L2N.Takes (X.tr (X.pn++pins) XH) (wAs3 X.K [c1,c2,c3] i ts Wout D):=fun u s' xx=>by
    obtain ⟨a,B,sI,pins',σ',H',cls,d,rfl,J',nb,up,sky,na,os,ag,b,hb1,yes,no⟩:=xx
    have J:Inv X pins σ' H' sI:=J'.ofTry Xok
    have sky2:Sky B (X.env::X.outer) a (L2N.Zn cls d) X.env.locals s'.heap:=by rw [<- hs];exact sky
    show wpAny M X.A (noteFrame (.ref a) X.env) _ _ _
    refine L2N.Sky.land L2N.Zn.steady frm hf sky2 fun g3 fl3 up3=>?_
    have notfr:a∉frs (X.env::X.outer):=fun hm=>by
      obtain ⟨oe,vs,e1,_,e3⟩:=fl3.there
      obtain ⟨_,o',e',nf⟩:=fl3.2.2.1.mem hm
      have z:=e1.symm.trans e'
      cases z
      exact nf _ e3
    have nL:a≠X.env.locals:=fun z=>notfr (List.mem_filterMap.mpr ⟨X.env,List.mem_cons_self,by rw [hf,z]⟩)
    have nF:a∉X.fs:=fun hm=>by
      obtain ⟨v,hv,q⟩:=List.mem_filterMap.mp hm
      exact notfr (List.mem_filterMap.mpr ⟨v,List.mem_cons_of_mem _ hv,q⟩)
    refine wpAny_handleBy_cons (codeAny_handlers_test ?_) (by intro q;cases q)
    have J3:Inv X pins σ' H' { s' with heap:=g3 }:=J.landed nb fl3.1 (up.trans up3) os ag
    obtain ⟨oe3,vs3,e3,z3,d3⟩:=fl3.there
    have S3:=J3.suite e3 d3 na nL nF
    refine amX (Y:=X.suite a ((a,oe3)::(X.pn++pins))) S3 h1 h2 h3 ?_
    let g4:=g3.push { cls:=.type "tuple",data:=.seq [c1,c2,c3].toArray }
    have k4:∀ b o,g3.get? b=some o->g4.get? b=some o:=fun b o q=>Heap.get?_push_of_some _ q
    have fl4:=akA k4 fl3
    have up4:g3.UpToSlots g4:=Heap.UpToSlots.of_keeps k4
    have LT:PySem.W.Looks M g4 (typeOf (.ref a)) cls:=fun A Q E s k q=>wpAny_typeOf_ref (k _ _ (k4 _ _ e3)) (by rw [z3.1];exact q)
    have LM:PySem.W.Looks M g4 (excMatches (.ref a) (.ref g3.objs.size)) b:=PySem.W.exm_tup3 (K:=X.K) (fun b o q=>k4 b o (J3.kIn b o q)) LT (Heap.get?_push_at rfl rfl) hb1
    refine LM.here (s:={ s' with heap:=g4 }) ?_
    cases b with
    | true=>
      refine codeAny_handlers_suite_as ?_
      refine HandSPX.lands_againZ fl4 fun g5 fl5 up5=>?_
      have J5:Inv X pins σ' H' { s' with heap:=g5 }:=J.landed nb fl5.1 (((up.trans up3).trans up4).trans up5) os ag
      obtain ⟨oe5,vs5,e5,z5,d5⟩:=fl5.there
      have S5:=J5.suite e5 d5 na nL nF
      refine store_ok (X:=X.suite a ((a,oe5)::(X.pn++pins))) (v:=.ref a) S5 hN hi (.inl hln) rfl (fun s6 S6=>?_) (.inr hln)
      refine wpAny_mono ((hsu a oe5 cls d (X.pn++pins) z5 ⟨_,d5⟩).run [] s6 _ H' _ S6 (yes rfl a na)) (fun f s7 r7=>?_) (fun _ _ z=>False.elim z)
      have leave:∀ {σ7:L2.St} {H7:Hp} {Q:Shared->Prop},Inv (X.suite a ((a,oe5)::(X.pn++pins))) [] σ7 H7 s7->(∀ s8,Inv X pins (σ7.set i none) H7 s8->Q s8)->
          wpAny M X.A (do bindName X.env n .none;unbindBehindTheSuite X.env n pos') (fun _ s8=>Q s8) X.xe s7:=fun S q=>gone_ok (S.unsuite Xok) hN hi hln q
      cases f with
      | next=>obtain ⟨σ7,H7,S7,y⟩:=r7;exact leave S7 fun s8 J8=>⟨_,_,J8,y⟩
      | brk=>obtain ⟨σ7,H7,S7,y⟩:=r7;exact leave S7 fun s8 J8=>⟨_,_,J8,y⟩
      | cont=>obtain ⟨σ7,H7,S7,y⟩:=r7;exact leave S7 fun s8 J8=>⟨_,_,J8,y⟩
      | ret u=>obtain ⟨v7,σ7,H7,S7,r,y⟩:=r7;exact leave S7 fun s8 J8=>⟨_,_,_,J8,r,y⟩
    | false=>
      show wpAny M X.A (handleBy (.ref a) X.env []) _ _ _
      refine wpAny_handleBy_nil ?_
      obtain ⟨_,_,_,oe,vs,T,oT,ts',e1,_,e2,e6,_⟩:=id fl4
      unfold PySem.passOn
      refine wpAny_bind (wpAny_field e1 e2 e6 ?_)
      rw [if_neg (show ¬ ((Value.ref T == Value.none)=true) from by simp)]
      have fin:wpAny M X.A (setFlight (.ref a) X.env.frame) (fun _ s4=>wpAny M X.A (throw (.ref a):Sem Flow) (SP X pins D) X.xe s4) X.xe { s' with heap:=g4 }:=by
        rw [hf]
        refine HandSPX.setFlight_upZ fl4 fun g5 hh5 up5=>wpAny_throw (tk _ _ ?_)
        exact ⟨a,B,sI,pins,σ',H',cls,d,rfl,J,nb,((up.trans up3).trans up4).trans up5,.inr (.inr (by rw [hs];exact hh5)),na,os,ag,no rfl⟩
      first
        | exact wpAny_bind (wpAny_pure (wpAny_bind fin))
        | exact wpAny_bind fin
  refine wpAny_mono ((hb _ (X.pn++pins) XH catches PassesOwn.looking).run [] s σ H D (I.toTry _) h) (fun f s1 r1=>?_) (fun e s1 he=>he)
  cases f with
  | next=>obtain ⟨σ',H',J',q⟩:=r1;exact wpAny_execs_nil ⟨σ',H',J'.ofTry Xok,q⟩
  | brk=>obtain ⟨σ',H',J',q⟩:=r1;exact ⟨σ',H',J'.ofTry Xok,q⟩
  | cont=>obtain ⟨σ',H',J',q⟩:=r1;exact ⟨σ',H',J'.ofTry Xok,q⟩
  | ret u=>obtain ⟨v,σ',H',J',r,q⟩:=r1;exact ⟨v,σ',H',J'.ofTry Xok,r,q⟩
end
def Grown (H H1:Hp) (P c':Addr) (q:Str) (ps:Array Value):Prop:=H1=H\/(H c'=none/\∃ l k:Nat,H1=upd (upd H P (.tbl (ps++#[rawInt l,rawInt k,.ref c']))) c' (LamX.CodeO c' q))
abbrev lamO (X:Cx) (params:Arguments) (body:Expr) (scope:Scope) (dV doc pm:Value) (c':Addr) (ctv:Value):Obj:=
  PySem.W.kdv_obj "<lambda>" (X.env.qual++"<lambda>") params (.expr body) scope (cloFrom X.env.cells scope.names []) dV doc pm c' ctv
section
variable {X:Cx} {pins:List (Addr × Obj)} {σ:L2.St} {H:Hp} {s:Shared} {c P:Addr} {ps:Array Value} {params:Arguments} {body:Expr} {scope:Scope} {pos:Pos} {Q E:Value->Shared->Prop}
theorem aeX (I:Inv X pins σ H s) {f:Addr} (hf:s.heap.objs.size<=f):f∉frs X.stack:=fun z=>by
  rcases List.mem_cons.mp (I.stkSub _ z) with e | e
  · have h1:=I.lt
    rw [<- e] at h1
    exact Nat.lt_irrefl _ (Nat.lt_of_lt_of_le h1 hf)
  · exact I.nofs hf e
theorem ah6 {dV:Value} {ln:Nat} (I:Inv X pins σ H s) (TB:LamX.TabB X.base X.mg c P) (hcode:X.env.code=.ref c) (hP:H P=some (.tbl ps)) (ht:TriplesOk ps.toList)
    (ha:∀ (pos:Pos) (cv:Value),codeAmong pos ps.toList=some cv->∃ c',cv=.ref c'/\H c'=some (LamX.CodeO c' (X.env.qual++"<lambda>"))) (hfree:∀ y∈scope.names,y.2=.free->∃ c,X.env.cells.lookup y.1=some c)
    (h:∀ (f c':Addr) (doc pm ctv:Value) (H1:Hp) (s':Shared),Inv X pins σ H1 s'->Grown H H1 P c' (X.env.qual++"<lambda>") ps->s'.heap.get? f=some (lamO X params body scope dV doc pm c' ctv)->H1 f=none->f∉frs X.stack->H1 c'=some (LamX.CodeO c' (X.env.qual++"<lambda>"))->
      (∀ b o,b≠P->s.heap.get? b=some o->s'.heap.get? b=some o)->(∀ b,s.heap.objs.size<=b->b < f->H1 b=none\/b=c')->Q (.ref f) s') :
    wpAny (model X.prog X.w) X.A (makeTail "<lambda>" (X.env.qual++"<lambda>") params (.expr body) scope X.env dV .none none pos ln) Q E s:=by
  have bP:s.heap.BuiltinsAt X.mg P:=TB.bm.keeps I.bk
  have tP:s.heap.get? P=some { cls:=.none,data:=.fields ps }:=I.hok P _ hP
  cases hc:codeAmong pos ps.toList with
  | none=>
    refine PySem.W.kdv_makeTail (mg:=X.mg) (c:=c) (P:=P) (ps:=ps) (closure_ok hfree) I.ok.glob (I.mod.glob.keeps I.bk) hcode (TB.code.keeps I.bk) tP ht hc TB.gP bP fun c' ctv doc g tk ext ge lt rec tab=>?_
    obtain ⟨c2,oc,cv,t,rfl',o1,o2,o3⟩:=rec
    cases rfl'
    have nC:H c'=none:=I.hok.fresh ge
    have J:=LamX.inv_table (t':=tk) (q:=X.env.qual++"<lambda>") (more:=#[rawInt pos.line,rawInt pos.col,.ref c']) (h':=g.push (lamO X params body scope dV doc ((X.mg "__name__").getD .none) c' ctv)) I hP
      (fun b o hb e=>Heap.get?_push_of_some _ (ext b o hb e)) (Heap.get?_push_of_some _ tab) ge ⟨oc,cv,t,Heap.get?_push_of_some _ o1,o2,o3⟩
    have sz:s.heap.objs.size<=g.objs.size:=Nat.le_trans ge (Nat.le_of_lt lt)
    have fr:∀ b,s.heap.objs.size<=b->b≠c'->upd (upd H P (.tbl (ps++#[rawInt pos.line,rawInt pos.col,.ref c']))) c' (LamX.CodeO c' (X.env.qual++"<lambda>")) b=none:=fun b hb nb=>by
      have nbP:b≠P:=fun z=>by subst z;exact absurd (Heap.lt_size tP) (Nat.not_lt.mpr hb)
      rw [upd_ne nb,upd_ne nbP]
      exact I.hok.fresh hb
    refine h g.objs.size c' doc _ ctv _ _ J (.inr ⟨nC,_,_,rfl⟩) (Heap.get?_push_size _ rfl) (fr _ sz (Nat.ne_of_gt lt)) (aeX I sz) upd_same (fun b o hb e=>Heap.get?_push_of_some _ (ext b o hb e)) fun b h1 h2=>?_
    by_cases z:b=c'
    · exact .inr z
    · exact .inl (fr b h1 z)
  | some cv=>
    obtain ⟨c',rfl,hco⟩:=ha pos cv hc
    refine PySem.W.kdv_makeTailHit (mg:=X.mg) (c:=c) (P:=P) (ps:=ps) (closure_ok hfree) I.ok.glob (I.mod.glob.keeps I.bk) hcode (TB.code.keeps I.bk) tP ht hc bP fun ctv doc g tk ext sz=>?_
    have J:Inv X pins σ H { s with heap:=g.push (lamO X params body scope dV doc ((X.mg "__name__").getD .none) c' ctv),toks:=tk }:=I.kept fun b o e=>Heap.get?_push_of_some _ (ext b o e)
    exact h g.objs.size c' doc _ ctv H _ J (.inl rfl) (Heap.get?_push_size _ rfl) (I.hok.fresh sz) (aeX I sz) hco (fun b o _ e=>Heap.get?_push_of_some _ (ext b o e)) fun b h1 _=>.inl (I.hok.fresh h1)
inductive LamPar:Arguments->List Str->Prop
  | none {params:Arguments} (h1:params.defaults=[]) (h2:params.kw_defaults=[])
      (hb:∀ (q:Str) (body:Expr) (scope:Scope) (cl:List (Str × Addr)) (doc pm cv ctv:Value),bindArgs (PySem.W.kdv_fn "<lambda>" q params (.expr body) scope cl .none doc pm cv ctv) ⟨[],[]⟩=pure []):LamPar params []
  | one {params:Arguments} {x:Str} {i:Int} {j:Nat} {p:Pos} (h1:params.defaults=[.Constant (.int i) j p]) (h2:params.kw_defaults=[])
      (hb:∀ (q:Str) (body:Expr) (scope:Scope) (cl:List (Str × Addr)) (dV doc pm cv ctv v:Value),∃ k,bindArgs (PySem.W.kdv_fn "<lambda>" q params (.expr body) scope cl dV doc pm cv ctv) ⟨[],[]⟩=seqItems? dV >>= k/\k (some #[v])=pure [(x,v)]):LamPar params [x]
def LamAt (X:Cx) (params:Arguments) (body:Expr) (scope:Scope) (f c':Addr) (H:Hp) (s:Shared):Prop:=∃ dV doc pm ctv,s.heap.get? f=some (lamO X params body scope dV doc pm c' ctv)/\H f=none/\f∉frs X.stack/\
  ((params.defaults=[]/\dV=.none)\/∃ T i t,dV=.ref T/\s.heap.get? T=some (PySem.W.kdv_tup [.int i t])/\H T=none/\T∉frs X.stack/\params.defaults≠[])
theorem akw {xs:List Str} (hp:LamPar params xs) (I:Inv X pins σ H s) (TB:LamX.TabB X.base X.mg c P) (hcode:X.env.code=.ref c) (hP:H P=some (.tbl ps)) (ht:TriplesOk ps.toList)
    (ha:∀ (pos:Pos) (cv:Value),codeAmong pos ps.toList=some cv->∃ c',cv=.ref c'/\H c'=some (LamX.CodeO c' (X.env.qual++"<lambda>"))) (hfree:∀ y∈scope.names,y.2=.free->∃ c,X.env.cells.lookup y.1=some c)
    (h:∀ (f c':Addr) (H1:Hp) (s':Shared),Inv X pins σ H1 s'->Grown H H1 P c' (X.env.qual++"<lambda>") ps->LamAt X params body scope f c' H1 s'->H1 c'=some (LamX.CodeO c' (X.env.qual++"<lambda>"))->Q (.ref f) s') :
    wpAny (model X.prog X.w) X.A (eval (.Lambda params body scope pos) X.env) Q E s:=by
  cases hp with
  | none h1 h2 hb=>
    have hdef:defaultsOf params X.env=([],[]):=by
      obtain ⟨a1,a2,a3,a4,a5,a6,a7⟩:=params
      cases h1;cases h2
      rfl
    refine PySem.W.kla_eval hdef ?_
    rw [makeFunction_eq]
    simp only [List.zip_nil_right,List.filterMap_nil,List.isEmpty_nil,if_true,pure_bind]
    exact ah6 I TB hcode hP ht ha hfree fun f c' doc pm ctv H1 s' J g o n nf hc k _=>h f c' H1 s' J g ⟨_,_,_,_,o,n,nf,.inl ⟨h1,rfl⟩⟩ hc
  | @one x i j p h1 h2 hb=>
    refine PySem.W.kdv_lam (by rw [h1];rfl) h2 ?_
    rw [h1]
    refine PySem.W.kdv_all1 (wpAny_Constant_int (PySem.W.kdv_all0 ?_))
    rw [makeFunction_eq]
    simp only [List.zip_nil_right,List.filterMap_nil,List.isEmpty_nil,if_true,pure_bind,List.isEmpty_cons,Bool.false_eq_true,if_false]
    refine wpAny_bind (wpAny_newTextTuple ?_)
    have I2:Inv X pins σ H { s with heap:=s.heap.push (PySem.W.kdv_tup [.int i s.toks]),toks:=s.toks + 1 }:=I.kept fun b o e=>Heap.get?_push_of_some _ e
    refine ah6 I2 TB hcode hP ht ha hfree fun f c' doc pm ctv H1 s' J g o n nf hc k fr=>?_
    have tT:s.heap.objs.size≠P:=fun z=>Nat.lt_irrefl _ (Nat.lt_of_lt_of_le (Heap.lt_size (I.hok P _ hP)) (Nat.le_of_eq z))
    have sT:(s.heap.push (PySem.W.kdv_tup [.int i s.toks])).get? s.heap.objs.size=some (PySem.W.kdv_tup [.int i s.toks]):=Heap.get?_push_size _ rfl
    refine h f c' H1 s' J g ⟨_,_,_,_,o,n,nf,.inr ⟨s.heap.objs.size,i,s.toks,rfl,k _ _ tT sT,?_,aeX I (Nat.le_refl _),by rw [h1];simp⟩⟩ hc
    rcases g with rfl | ⟨z,l,k',rfl⟩
    · exact I.hok.fresh (Nat.le_refl _)
    · have nc:s.heap.objs.size≠c':=fun y=>by
        subst y
        have w:=J.hok _ _ hc
        obtain ⟨⟨oc,vs,t,e1,e2,_⟩,_⟩:=w
        have e3:=k _ _ tT sT
        rw [e1] at e3
        cases e3
        cases e2
      rw [upd_ne nc,upd_ne tT]
      exact I.hok.fresh (Nat.le_refl _)
end
structure LamN (N:List Str) (sc scope:Scope) (xs:List Str):Prop where
  kind:scope.kind=.function
  co:scope.isCoroutine=false
  gen:scope.isGenerator=false
  own:∀ y∈scope.names,y.2≠.cell/\(y.2=.local->y.1∉N)
  free:∀ y∈scope.names,y.2=.free->sc.names.lookup y.1=some .cell\/sc.names.lookup y.1=some .free
  par:∀ a∈xs,scope.names.lookup a=some .local
def lamC (X:Cx) (A:Around) (outer:List Env) (s:Shared) (H:Hp) (E:XK) (scope:Scope) (f c':Addr):Cx:=
  { LamX.lamCx X A outer s H E scope f c' with
    xe:=fun e s'=>wpAny (model X.prog X.w) (A.deeper (LamX.lamEnv X scope s.heap.objs.size f c')) (leaving (LamX.lamEnv X scope s.heap.objs.size f c') e) (fun _ s''=>L2N.CX X.prog X.w outer H s E e s'') (fun e' s''=>L2N.CX X.prog X.w outer H s E e' s'') s' }
section
variable {X:Cx} {pins:List (Addr × Obj)} {σ:L2.St} {H HZ:Hp} {s s1:Shared} {params:Arguments} {xs:List Str}
theorem LamN.has {scope:Scope} (L:LamN X.N X.env.scope scope xs) (ok:X.Ok):∀ y∈scope.names,y.2=.free->∃ c,X.env.cells.lookup y.1=some c:=fun y hy e=>by
  rcases L.free y hy e with k | k
  · exact ok.has _ (.inl k)
  · exact ok.has _ (.inr k)
theorem ajA {A:Around} {outer:List Env} {E:XK} {scope:Scope} {f c':Addr} {h1:Heap} {tk:Nat} {m:Str->Option Value} (I:Inv X pins σ H s) (L:LamN X.N X.env.scope scope xs) (e0:Env0 X.prog X.w X.K X.mg X.base A outer s1 HZ) (hd:A.handled=none)
    (un:Un (frs X.stack) [] H HZ s.heap s1.heap) (hns:h1.Ns s1.heap.objs.size m) (kp:∀ b o,s1.heap.get? b=some o->h1.get? b=some o) :
    Inv (lamC X A outer s1 HZ E scope f c') [] σ HZ { s1 with heap:=h1,toks:=tk }:=by
  have hfree:=L.has I.ok
  have back:∀ {y:Str} {d:Addr},(cloFrom X.env.cells scope.names []).lookup y=some d->X.env.cells.lookup y=some d:=fun {y d} e=>by
    rcases cloFrom_mem (PySem.mem_of_lookup e) with hm | ⟨z1,z2⟩
    · cases hm
    · obtain ⟨d1,hc⟩:=hfree _ z1 rfl
      have hc':X.env.cells.lookup y=some d1:=hc
      have e2:d=d1:=by rw [z2,hc']<;>rfl
      rw [e2];exact hc'
  have forth:∀ {y:Str},scope.names.lookup y=some .free->∃ d,(cloFrom X.env.cells scope.names []).lookup y=some d:=fun {y} hl=>
    mem_lookup (cloFrom_has (cells:=X.env.cells) (acc:=[]) (PySem.mem_of_lookup hl:(y,NameKind.free)∈scope.names))
  have cellK:∀ {d:Addr} {v:Option Value},H d=none->s.heap.IsCell d v->h1.IsCell d v:=fun {d v} n ⟨o,ho,hdt⟩=>by
    obtain ⟨sl,q⟩:=un.any ho n (by simp)
    exact ⟨_,kp _ _ q,hdt⟩
  have noX:∀ b:Addr,b∉(lamC X A outer s1 HZ E scope f c').ex:=fun b z=>absurd (show b∈([]:List Addr) from z) (by simp)
  have OK:(lamC X A outer s1 HZ E scope f c').Ok:=⟨e0.mod,L.kind,rfl,rfl,Nat.le_refl _,fun y z c e1 e2=>I.ok.inj y z c (back e1) (back e2),fun y hy=>by
      have hy':scope.names.lookup y=some .cell\/scope.names.lookup y=some .free:=hy
      rcases hy' with hy' | hy'
      · exact absurd rfl (L.own _ (PySem.mem_of_lookup hy')).1
      · exact forth hy',
    fun y c z _=>(Bool.noConfusion (show false=true from z)),fun _=>hd,Around.frames_deeper e0.frames,.inr ⟨rfl,rfl⟩,fun b z=>absurd z (noX b),e0.bs,e0.bsz,fun b _ _=>noX b,fun b z=>absurd z (noX b),e0.funs,e0.frf⟩
  refine ⟨OK,rfl,e0.bare,Un.kept kp,⟨m,hns,fun i y v e1 e2 e3=>?_⟩,fun y c e=>?_,e0.hok.fresh (Nat.le_refl _),fun y c e=>?_,fun q hq=>absurd (show q∈([]:List (Addr × Obj))++[] from hq) (by simp),e0.hok.kept kp,I.len⟩
  · have vis:Vis scope y:=e3
    have iN:y∈X.N:=List.mem_of_getElem? e1
    rcases vis with k | k | k
    · exact absurd iN ((L.own _ (PySem.mem_of_lookup k)).2 rfl)
    · exact absurd rfl (L.own _ (PySem.mem_of_lookup k)).1
    · obtain ⟨m0,hn0,hl⟩:=I.loc
      have src:=L.free _ (PySem.mem_of_lookup k) rfl
      obtain ⟨u,r,q⟩:=hl i y v e1 e2 (src.elim (fun z=>.inr (.inl z)) fun z=>.inr (.inr z))
      obtain ⟨d,hd2⟩:=forth k
      refine ⟨u,r,.inr ⟨.inr k,d,hd2,?_⟩⟩
      have hb:=back hd2
      rcases q with ⟨k',_⟩ | ⟨_,d3,e',z⟩
      · have k'':X.env.scope.names.lookup y=some .local:=k'
        rcases src with k2 | k2<;>rw [show X.env.scope.names.lookup y=_ from k2] at k''<;>cases k''
      · rw [hb] at e';cases e'
        exact cellK (I.freeC y _ hb) z
  · obtain ⟨u,z⟩:=I.cell y c (back e)
    exact ⟨u,cellK (I.freeC y c (back e)) z⟩
  · obtain ⟨v,o,ho,hdt⟩:=I.cell y c (back e)
    exact un.free c o ho (I.freeC y c (back e)) (by simp)
abbrev gotC (X:Cx) (Ng:List Str) (qg:Str) (sg:Scope) (g:Addr) (cdg:Value) (s:Shared) (H:Hp) (Eg:XK):Cx:=cxOf (L2N.CX X.prog X.w) X.prog X.w X.K X.mg X.base Ng qg sg g cdg X.A X.stack s H Eg
theorem amT {Eg:XK} {Ng:List Str} {qg:Str} {sg:Scope} {g f c':Addr} {cdg:Value} {body:Expr} {scope:Scope} {k i:Nat} {a:Str} {pn:List (Addr × Obj)} {xe:Value->Shared->Prop} {W:WX} {E:XK} {tb:TE} {p1 p2:Pos}
    (hp:LamPar params xs) (I:Inv X pins σ H s) (L:LamN X.N X.env.scope scope xs)
    (la:LamAt X params body scope f c' H s) (tk:L2N.Takes ((gotC X Ng qg sg g cdg s H Eg).tr pn xe) W) (hW:∀ cls d (σ':L2.St) H',σ'.length=Ng.length->E cls d H'->W cls d σ' H') (hr:Room (k + 1) (X.A.deeper (envOfC qg sg s.heap.objs.size g cdg))) (hgd:X.A.guards=some [])
    (hbody:∀ (A:Around) (outer:List Env) (s:Shared) (H:Hp),Room k (A.deeper (LamX.lamEnv X scope s.heap.objs.size f c'))->A.guards=some []->PE (lamC X A outer s H E scope f c') body tb)
    (hN:Ng[i]?=some a) (hv:Vis sg a) (hd:(a == ("__debug__":Str))=false:=by decide) (hcd:(a == ("__classdict__":Str))=false:=by decide) :
    PE ((gotC X Ng qg sg g cdg s H Eg).tr pn xe) (.Call (.Name a p1) [] [] p2)
      (fun σZ HZ Q=>σZ[i]?=some (some (.ref f))/\HZ c'=some (LamX.CodeO c' (X.env.qual++"<lambda>"))/\tb σ HZ Q):=by
  refine ⟨fun pinsZ sZ σZ HZ Q IZ h=>?_⟩
  obtain ⟨hs,hc,ht⟩:=h
  refine wpAny_Call_Name_kw (thn ((pe_var (pos:=p1) (i:=i) hN hv hd hcd).run pinsZ sZ σZ HZ (fun v H1=>v=.ref f/\H1=HZ) IZ ⟨.ref f,hs,rfl,rfl⟩) fun u s1 ⟨v,H1,I1,r1,q1⟩=>?_)
  obtain ⟨rfl,rfl⟩:=q1
  obtain rfl:u=Value.ref f:=r1
  obtain ⟨dV,doc,pm,ctv,of0,nf,ff,dfl⟩:=la
  have noex:∀ b:Addr,b∉((gotC X Ng qg sg g cdg s H Eg).tr pn xe).ex:=fun b z=>absurd (show b∈([]:List Addr) from z) (by simp)
  have of1:s1.heap.get? f=some (lamO X params body scope dV doc pm c' ctv):=I1.base.keep f _ of0 nf ff (noex f)
  refine PySem.W.callWith_F0 ⟨_,_,_,_,of1⟩ ?_
  have un:Un (frs X.stack) [] H H1 s.heap s1.heap:=I1.base
  obtain ⟨⟨oc,vs,t,hoc,hdc,hvc⟩,_,_⟩:=I1.hok c' _ hc
  obtain ⟨binds,hbd,hlc⟩:∃ binds,BindsTo s1 (PySem.W.kdv_fn "<lambda>" (X.env.qual++"<lambda>") params (.expr body) scope (cloFrom X.env.cells scope.names []) dV doc pm (.ref c') ctv) ⟨[],[]⟩ binds/\∀ y∈binds,scope.names.lookup y.1=some .local:=by
    cases hp with
    | none h1 h2 hb=>
      rcases dfl with ⟨_,rfl⟩ | ⟨_,_,_,_,_,_,_,z⟩
      · exact ⟨[],BindsTo.of_eq (hb _ _ _ _ _ _ _ _),fun y hy=>absurd hy (by simp)⟩
      · exact absurd h1 z
    | @one x i0 j p h1 h2 hb=>
      rcases dfl with ⟨z,_⟩ | ⟨T,iT,tT,rfl,oT,nT,fT,z⟩
      · rw [h1] at z;cases z
      · obtain ⟨kk,e1,e2⟩:=hb (X.env.qual++"<lambda>") body scope (cloFrom X.env.cells scope.names []) (.ref T) doc pm (.ref c') ctv (.int iT tT)
        refine ⟨[(x,.int iT tT)],BindsTo.of_defaults rfl (I1.base.keep T _ oT nT fT (noex T)) rfl e1 e2,fun y hy=>?_⟩
        rw [List.mem_singleton.mp hy]
        exact L.par x (List.mem_singleton.mpr rfl)
  have rc:codeAny (model X.prog X.w) (X.A.deeper (envOfC qg sg s.heap.objs.size g cdg)) (.call (.ref f) ⟨[],[]⟩) (CR (L2N.CX X.prog X.w) (envOfC qg sg s.heap.objs.size g cdg::X.stack) X.prog X.w H1 s1 Q E) s1:=by
    refine PySem.W.kla_callFunE hr.depth of1 rfl L.co L.gen rfl ⟨c',oc,vs,t,rfl,hoc,hdc,hvc⟩ (hbd _ _ _ _ ?_)
    refine wpAny_newFunctionEnv (fun y hy=>(L.own y hy).1) hlc (fun h1 hns hsb=>⟨I1.nolimit.fresh _ hsb,?_⟩) L.kind
    show codeAny _ _ (.expr body (LamX.lamEnv X scope s1.heap.objs.size f c')) _ _
    have kp:∀ b o,s1.heap.get? b=some o->h1.get? b=some o:=fun b o e=>hsb.extBut b o (Nat.ne_of_lt (Heap.lt_size e)) (Heap.get?_push_of_some _ e)
    have J:=ajA (A:=X.A.deeper (envOfC qg sg s.heap.objs.size g cdg)) (outer:=envOfC qg sg s.heap.objs.size g cdg::X.stack) (E:=E) (f:=f) (c':=c') (tk:=s1.toks + binds.length) I L I1.env0 hr.hd un hns kp
    refine PySem.W.kla_codeExpr (wpAny_mono ((hbody _ _ s1 H1 (hr.deeper _) hgd).run [] _ _ H1 Q J ht) (fun v s' hq=>?_) fun e s' hq=>hq)
    obtain ⟨w',H',J',rv,q⟩:=hq
    exact ⟨w',H',J'.os,J'.bare,J'.base,J'.hok,rv,q⟩
  refine wpAny_call (codeAny_mono rc fun r s' hq=>?_)
  cases r with
  | error e=>exact tk e s' (L2N.XE.of_call I1 (fun cls d H' h=>hW cls d σZ H' I1.len h) hq)
  | ok fl=>
    cases fl with
    | ret u=>exact I1.after hq
    | next=>exact False.elim hq
    | brk=>exact False.elim hq
    | cont=>exact False.elim hq
end
structure PinX (K:PySem.W.Frag) (p:Addr × Obj) (C dx:Addr):Prop where
  z:L2N.Zn (.ref C) (some dx) p.2
  f:∃ vs,p.2.data=.fields vs
  x:XfC K C
def tXfP (K:PySem.W.Frag) (p:Addr × Obj) (n:Str) (te:TE):TE:=fun σ H Q=>te σ H fun x H1=>x=.ref p.1/\∃ C dx fs v,PinX K p C dx/\PySem.W.findIn K (.ref C) n=some none/\H1 dx=some (.xd fs)/\fs.lookup n=some v/\Q v H1
theorem abp {Y:Cx} {p:Addr × Obj} {e:Expr} {te:TE} {pos:Pos} {n:Str} (hp:p∈Y.pn) (he:PE Y e te) (hb:attributeBase e n Y.env (eval e Y.env)=eval e Y.env:=by rfl):PE Y (.Attribute e n pos) (tXfP Y.K p n te):=by
  refine ⟨fun pins s σ H Q I h=>?_⟩
  refine attr_of hb (thn (he.run pins s σ H _ I h) fun u s1 ⟨x,H1,I1,rx,ex,C,dx,fs,v,T,hno,ea,l,q⟩=>?_)
  subst ex
  obtain rfl:u=Value.ref p.1:=rx
  obtain ⟨ga,_⟩:=I1.pin p (List.mem_append_left _ hp)
  obtain ⟨vs,hd⟩:=T.f
  obtain ⟨mA,hns,hr⟩:ObjOk Y.prog Y.w H1 s1.heap dx (.xd fs):=I1.hok dx _ ea
  obtain ⟨od,ho,hl⟩:=lookIn_ns hns
  obtain ⟨w,hw,rw'⟩:=RelO.some_of (v:=v) (o:=mA n) (by rw [<- l];exact hr n)
  have J:PySem.W.InstAt s1.heap p.1 p.2 C (some od):=⟨ga,T.z.1,by unfold PySem.W.notCls;rw [hd]<;>rfl,by rw [T.z.2.1];exact ho⟩
  exact HandSPX.exc_get I1.kIn J T.x.ga T.x.gg T.x.exC (PySem.W.findObj_own T.x.hdC hno rfl (by rw [hl,hw])) (handed_of rw') ⟨v,H1,I1.tok _,rw',q⟩
structure FnP (P:Program) (w:World) (K:PySem.W.Frag) (mg:Str->Option Value) (base:Heap) (k:Nat) (f:Addr) (fd:FuncData) (ps:List Str) (sp:Addr × Obj->Sp):Prop where
  len:∀ p vs H Q E,sp p vs H Q E->vs.length=ps.length
  run:∀ (A:Around) (outer:List Env) (s:Shared) (H:Hp) (args:Args) (us:List Value) (vs:List V) (Q:VK) (E:XK) (p:Addr × Obj),L2H.RoomH k A->L2H.Hot1 A p->L2H.PinOk outer H s p->Env0 P w K mg base A outer s H->BindsTo s fd args (ps.zip us)->Vals vs us->sp p vs H Q E->
    codeAny (model P w) A (.call (.ref f) args) (CR (L2N.CX P w) outer P w H s Q E) s
theorem anh {P:Program} {w:World} {K:PySem.W.Frag} {mg:Str->Option Value} {base:Heap} {x qual:Str} {params:Arguments} {body:List Stmt} {scope:Scope} {dvs:List V} {kws:List (Str × V)} {f:Addr} {fd:FuncData} {N ps:List Str} {k:Nat} {sp:Addr × Obj->Sp}
    (F:FunD K x qual params body scope dvs kws f fd) (S:FnScope N ps scope) (len:∀ p vs H Q E,sp p vs H Q E->vs.length=ps.length)
    (hd:∀ (cdv:Value) (A:Around) (outer:List Env) (s:Shared) (H:Hp) (vs:List V) (Q:VK) (E:XK) (p:Addr × Obj),sp p vs H Q E->
      ∃ t,PSs (L2H.cxH (L2N.CX P w) P w K mg base N qual scope f cdv A outer s H E p) body t/\t { nx:=fun _ H'=>Q .non H',rt:=Q } (L2.start N vs) H):FnP P w K mg base (k + 1) f fd ps sp:=by
  obtain ⟨oc,od,dV,kV,doc,pm,an,cdv,ct,osl,rfl,lk,hcd,_,_⟩:=F.ex
  refine ⟨len,fun A outer s H args us vs Q E p hroom hot pin e0 hb r hsp=>?_⟩
  have KX:K.In s.heap:=e0.mod.kin.keeps fun b o e=>(e0.bs b o e).1
  have lim:s.heap.NoLimit:=e0.mod.nolimit.keeps fun b o e=>(e0.bs b o e).1
  have hkind:((ps.zip us).all fun y=>scope.names.lookup y.1 == some .local || scope.names.lookup y.1 == some .cell)=true:=by
    rw [List.all_eq_true]
    rintro ⟨n,u⟩ hy
    rcases S.par n (List.of_mem_zip hy).1 with z | z
    · show (scope.names.lookup n == some .local || _)=true
      rw [z];rfl
    · show (scope.names.lookup n == some .local || scope.names.lookup n == some .cell)=true
      rw [z];rfl
  refine Att.call_fn KX lim lk hcd hroom.depth hb hkind (fun s1 x=>?_) S.co S.gen S.kind
  have I:=L2H.inv_startH (CX:=L2N.CX P w) (E:=E) S pin e0 (len _ _ _ _ _ hsp) r x
  obtain ⟨t,pt,qt⟩:=hd cdv A outer s H vs Q E p hsp
  refine wpAny_mono (pt.run [] s1 (L2.start N vs) H _ I qt) (fun fl s' hs=>?_) fun e s' hs=>hs
  cases fl with
  | ret u=>
    obtain ⟨v,σ',H',J,rv,z⟩:=hs
    exact ⟨v,H',J.os,J.bare,J.base,J.hok,rv,z⟩
  | next=>
    obtain ⟨σ',H',J,z⟩:=hs
    exact ⟨.non,H',J.os,J.bare,J.base,J.hok,rfl,z⟩
  | brk=>obtain ⟨_,_,_,z⟩:=hs;exact False.elim z
  | cont=>obtain ⟨_,_,_,z⟩:=hs;exact False.elim z
theorem akn {Y:Cx} {k:Nat} {f:Addr} {fd:FuncData} {ps:List Str} {sp:Addr × Obj->Sp} {x:Str} {q pos:Pos} {e:Expr} {es:List Expr} {t:TA} {p:Addr × Obj} (F:FnP Y.prog Y.w Y.K Y.mg Y.base k f fd ps sp) (hr:L2H.RoomH k Y.A) (hot:L2H.Hot1 Y.A p) (hp:p∈Y.pn) (hg:Gl Y x) (hm:Y.mg x=some (.ref f)) (hk:PySem.W.keepIn Y.K (.ref f)=true) (hb:Binds Y.K fd ps [])
    (ha:PA Y (e::es) t) (hdb:(x == ("__debug__":Str))=false:=by decide) (he:starEach (e::es) Y.env=(false,eval e Y.env)::starEach es Y.env:=by rfl) (hpl:(backTo pos (starEach es Y.env)).any (·.1)=false:=by rfl) :
    PE Y (.Call (.Name x q) (e::es) [] pos) (fun σ H Q=>t σ H fun vs H1=>sp p vs H1 Q E0):=by
  refine ⟨fun pins s σ H Q I h=>wpAny_Call_Name_kw (ld_glob I hg hm ?_ hdb)⟩
  refine PySem.W.callWith_K (h₀:=Y.base) I.ok.mod.kin hk (thn (ha.run pos pins s σ H _ I h) fun us s1 ⟨vs,H1,I1,r,q⟩=>⟨I1.kIn,?_⟩) he hpl
  have hl:(us++[]).length=ps.length:=by rw [List.append_nil,<- r.length];exact F.len _ _ _ _ _ q
  have hb2:=hb s1 us I1.kIn hl
  rw [List.append_nil] at hb2
  obtain ⟨g1,g2,g3,g4,g5⟩:=I1.pin p (List.mem_append_left _ hp)
  have pin:L2H.PinOk Y.stack H1 s1 p:=⟨g1,g2,fun z=>(List.mem_cons.mp (I1.stkSub p.1 z)).elim g3 g4,g5⟩
  refine wpAny_call (codeAny_mono (F.run Y.A Y.stack s1 H1 ⟨us,[]⟩ us vs Q E0 p hr hot pin I1.env0 hb2 r q) fun r s' hq=>?_)
  cases r with
  | error e=>
    obtain ⟨_,_,_,_,_,_,_,_,_,_,_,_,z⟩:=hq
    exact False.elim z
  | ok fl=>
    cases fl with
    | ret u=>exact I1.after hq
    | next=>exact False.elim hq
    | brk=>exact False.elim hq
    | cont=>exact False.elim hq
def fieldsOf {α:Type} (c:Str) (fs:List (Str × α)):Option (List α):=
  let g1:=fun (f:Str)=>(fs.lookup f).map fun v=>[v]
  if c∈(["InvalidRatio","InvalidNumber","InvalidName","InvalidLayer","InvalidPlace","InvalidPoint","InvalidForm","InvalidLimit"]:List Str) then g1 "given"
  else if c∈(["InvalidRow","InvalidFact","InvalidCommand"]:List Str) then g1 "at"
  else if c∈(["InvalidStep","UnlikeEnds"]:List Str) then g1 "path"
  else if c∈(["DuplicateName","UnknownName"]:List Str) then g1 "name"
  else if c∈(["InvalidText","UnknownScript"]:List Str) then g1 "word"
  else if c="InvalidTable" then g1 "layer"
  else if c="InvalidWay" then (match fs.lookup ("layer":Str),fs.lookup ("start":Str),fs.lookup ("goal":Str) with
    | some a,some b,some d=>some [a,b,d]
    | _,_,_=>none)
  else if c="Full" then g1 "limit"
  else if c="InvalidPage" then g1 "line"
  else if c="TooMany" then (match fs.lookup ("subject":Str),fs.lookup ("most":Str) with
    | some a,some b=>some [a,b]
    | _,_=>none)
  else some []
def errFields:List Str:=["code","given","at","path","name","word","layer","start","goal","limit","line","subject","most"]
structure ErrC (K:PySem.W.Frag) (cs:List Value) (C:Addr):Prop where
  x:XfC K C
  no:∀ f∈errFields,PySem.W.findIn K (.ref C) f=some none
  is:PySem.W.exmAny K (.ref C) cs=some true
def spFields (K:PySem.W.Frag):Addr × Obj->Sp:=fun p vs H Q _=>∃ C dx fs c xs,vs=[.ref p.1]/\PinX K p C dx/\(∀ f∈errFields,PySem.W.findIn K (.ref C) f=some none)/\H dx=some (.xd fs)/\fs.lookup ("code":Str)=some (.str c)/\fieldsOf c fs=some xs/\
  ∀ H' l,Ex H H'->H l=none->H' l=some (.tup xs)->Q (.ref l) H'
section
variable {K:PySem.W.Frag} {G G1:Hp} {so:So} {σ:L2.St} {H H1 H2:Hp} {sl s1:DSt}
theorem aiv {P c':Addr} {q:Str} {ps:Array Value} (rep:Rep K G so σ H sl) (hm:(P,Kd.tab q)∈so) (hP:H P=some (.tbl ps)) (gr:Grown H H1 P c' q ps):∃ G1,Post K G so σ H sl H1 G1 sl:=by
  rcases gr with rfl | ⟨nC,l,k,rfl⟩
  · exact ⟨G,.refl rep⟩
  · have gC:G c'=none:=rep.h.ex.free nC
    have nPc:P≠c':=ne_of_none hP nC
    have at_:∀ b,b≠P->b≠c'->upd (upd H P (.tbl (ps++#[rawInt l,rawInt k,.ref c']))) c' (LamX.CodeO c' q) b=H b:=fun b z1 z2=>by rw [upd_ne z2,upd_ne z1]
    have nvP:∀ b,so.Nq b->b≠P:=fun b z y=>by
      obtain ⟨C,e⟩:=z _ (y ▸ hm)
      cases e
    have hr:HRep K (upd G c' (LamX.CodeO c' q)) so (upd (upd H P (.tbl (ps++#[rawInt l,rawInt k,.ref c']))) c' (LamX.CodeO c' q)):=by
      refine ⟨fun b o e=>?_,fun b kd e=>?_,rep.h.ok,ahj (ad7 rep.h.tp (by intro _ z;cases z))⟩
      · by_cases z:b=c'
        · subst z;rw [upd_same] at e ⊢;exact e
        · rw [upd_ne z] at e
          rw [at_ b (nvP b (So.Nt.q (rep.h.nsrc e))) z]
          exact rep.h.ex b o e
      · have old:=rep.h.vol b kd e
        have nb:b≠c':=fun z=>by subst z;exact old.there nC
        by_cases z:b=P
        · subst z
          obtain rfl:=rep.h.ok.uq _ _ _ e hm
          obtain ⟨gP,ps0,e1,e2,e3⟩:=old
          rw [hP] at e1;cases e1
          have eL:(ps++#[rawInt l,rawInt k,.ref c']).toList=ps.toList++[rawInt l,rawInt k,.ref c']:=by simp
          refine ⟨by rw [upd_ne nb];exact gP,_,by rw [upd_ne nb,upd_same],by rw [eL];exact PySem.TriplesOk_snoc _ _ _ _ e2,fun pos cv hc=>?_⟩
          rw [eL] at hc
          rcases LamX.among_app (pos:=⟨l,k,0,0⟩) _ e2 hc with y | y
          · obtain ⟨c0,y1,y2⟩:=e3 pos cv y
            exact ⟨c0,y1,Ex.new gC _ _ y2⟩
          · exact ⟨c',y,upd_same⟩
        · exact old.keep (Ex.new gC) (by rw [upd_ne nb];exact old.g) (at_ b z nb)
    have pv:PostV K G so H .non _ (upd G c' (LamX.CodeO c' q)) (.d .non):=⟨Ex.new gC,hr,fun b o e z=>by rw [at_ b (nvP b z) (ne_of_none e nC)];exact e,fun b n g z=>by rw [upd_ne (fun y=>by subst y;exact n nC)];exact g,.non,fun _ _ e=>(nomatch e),fun _ e=>(nomatch e)⟩
    exact ⟨_,(pv.slots rep).toPost⟩
theorem PostV.tupleX {l:Addr} {vs:List V} {ds:List D} (h:HRep K G so H) (e:Ex H H2) (n:H l=none) (t:H2 l=some (.tup vs)) (a:DAll K G vs ds):PostV K G so H (.ref l) H2 (tpUp G H2) (.d (.tup ds)):=
  ⟨ahk h e,h.grow e,fun b o q _=>e b o q,fun b q g _=>agF h e q g,DOk.tup (SqT.of (by unfold tpUp;rw [t])) (a.mono (ahk h e)),fun _ o e=>(nomatch e),fun _ e=>(nomatch e)⟩
theorem aiG {c:Str} {vs:List (Str × V)} {fs:List (Str × D)} {xs:List D} (h:FAll K G vs fs) (e:fieldsOf c fs=some xs):∃ xv,fieldsOf c vs=some xv/\DAll K G xv xs:=by
  have one:∀ {f:Str} {xs:List D},(fs.lookup f).map (fun v=>[v])=some xs->∃ xv,(vs.lookup f).map (fun v=>[v])=some xv/\DAll K G xv xs:=fun {f xs} z=>by
    cases q:fs.lookup f with
    | none=>rw [q] at z;cases z
    | some d=>
      rw [q] at z;cases z
      obtain ⟨v,h1,h2⟩:=h.look q
      exact ⟨[v],by rw [h1];rfl,.cons h2 .nil⟩
  unfold fieldsOf at e ⊢
  dsimp only at e ⊢
  split at e
  · rename_i z;rw [if_pos z];exact one e
  rename_i z;rw [if_neg z]
  split at e
  · rename_i z;rw [if_pos z];exact one e
  rename_i z;rw [if_neg z]
  split at e
  · rename_i z;rw [if_pos z];exact one e
  rename_i z;rw [if_neg z]
  split at e
  · rename_i z;rw [if_pos z];exact one e
  rename_i z;rw [if_neg z]
  split at e
  · rename_i z;rw [if_pos z];exact one e
  rename_i z;rw [if_neg z]
  split at e
  · rename_i z;rw [if_pos z];exact one e
  rename_i z;rw [if_neg z]
  split at e
  · rename_i z;rw [if_pos z]
    split at e
    · rename_i a b d q1 q2 q3
      cases e
      obtain ⟨v1,h1,k1⟩:=h.look q1
      obtain ⟨v2,h2,k2⟩:=h.look q2
      obtain ⟨v3,h3,k3⟩:=h.look q3
      exact ⟨[v1,v2,v3],by rw [h1,h2,h3],.cons k1 (.cons k2 (.cons k3 .nil))⟩
    · cases e
  rename_i z;rw [if_neg z]
  split at e
  · rename_i z;rw [if_pos z];exact one e
  rename_i z;rw [if_neg z]
  split at e
  · rename_i z;rw [if_pos z];exact one e
  rename_i z;rw [if_neg z]
  split at e
  · rename_i z;rw [if_pos z]
    split at e
    · rename_i a b q1 q2
      cases e
      obtain ⟨v1,h1,k1⟩:=h.look q1
      obtain ⟨v2,h2,k2⟩:=h.look q2
      exact ⟨[v1,v2],by rw [h1,h2],.cons k1 (.cons k2 .nil)⟩
    · cases e
  rename_i z;rw [if_neg z]
  cases e
  exact ⟨[],rfl,.nil⟩
end
theorem aiF {α:Type} {c:Str} {fs:List (Str × α)} {xs:List α} (e:fieldsOf c fs=some xs):xs.length<=3:=by
  have one:∀ {f:Str} {xs:List α},(fs.lookup f).map (fun v=>[v])=some xs->xs.length<=3:=fun {f xs} z=>by
    cases q:fs.lookup f with
    | none=>rw [q] at z;cases z
    | some d=>rw [q] at z;cases z;simp
  unfold fieldsOf at e
  dsimp only at e
  split at e
  · exact one e
  split at e
  · exact one e
  split at e
  · exact one e
  split at e
  · exact one e
  split at e
  · exact one e
  split at e
  · exact one e
  split at e
  · split at e
    · cases e;simp
    · cases e
  split at e
  · exact one e
  split at e
  · exact one e
  split at e
  · split at e
    · cases e;simp
    · cases e
  cases e;simp
def TTask (K:PySem.W.Frag) (cs:List Value) (tl:XK->Hp->VK->Prop) (H:Hp) (Q:VK):Prop:=
  tl (fun cls d H'=>∃ C dx fs c xs,cls=.ref C/\d=some dx/\ErrC K cs C/\H' dx=some (.xd fs)/\fs.lookup ("code":Str)=some (V.str c)/\fieldsOf c fs=some xs/\∀ H2 l,Ex H' H2->H' l=none->H2 l=some (.tup (.str c::xs))->Q (.ref l) H2) H
    (fun v H'=>[V.str "",v].length<=sizeLine/\∀ l,H' l=none->Q (.ref l) (upd H' l (.tup [.str "",v])))
def AskTo (X:Cx) (Ng:List Str) (qg:Str) (sg:Scope) (g:Addr) (bg:List Stmt) (a q:Str) (TT:(XK->Hp->VK->Prop)->Hp->VK->Prop):Prop:=
  ∀ (cdg:Value) (f c':Addr) (s:Shared) (H:Hp) (Q:VK) (tl:XK->Hp->VK->Prop),
    (∀ (W:WX) (pn:List (Addr × Obj)) (xe:Value->Shared->Prop) (E:XK) (p1 p2:Pos),L2N.Takes ((gotC X Ng qg sg g cdg s H E0).tr pn xe) W->(∀ cls d (σ':L2.St) H',σ'.length=Ng.length->E cls d H'->W cls d σ' H')->
      PE ((gotC X Ng qg sg g cdg s H E0).tr pn xe) (.Call (.Name a p1) [] [] p2) (fun σZ HZ Q=>σZ[0]?=some (some (.ref f))/\HZ c'=some (LamX.CodeO c' q)/\tl E HZ Q))->
    H c'=some (LamX.CodeO c' q)->TT tl H Q->
    ∃ t,PSs (gotC X Ng qg sg g cdg s H E0) bg t/\t { nx:=fun _ H'=>Q .non H',rt:=Q } (L2.start Ng [.ref f]) H
def dAsk (K:PySem.W.Frag) (cs:List Value) (te:TD):TD:=fun sl Q _=>te sl (fun v s1=>match pubV v with
    | .d x=>Q (.d (.tup [.str "",x])) s1
    | _=>False)
  (fun cls fs s1=>∃ C c xs,cls=.ref C/\ErrC K cs C/\fs.lookup ("code":Str)=some (D.str c)/\fieldsOf c fs=some xs/\Q (.d (.tup (.str c::xs))) s1)
section
variable {X:Cx} {W:WX} {K:PySem.W.Frag} {cs:List Value} {x a:Str} {g c:Addr} {fdg:FuncData} {qg:Str} {pg:Arguments} {bg:List Stmt} {sg:Scope} {Ng xs:List Str} {params:Arguments} {body:Expr} {scope:Scope} {te:TD} {k:Nat} {p lpos pos:Pos}
theorem anp (hg:Gl X x) (hm:X.mg x=some (.ref g)) (Fg:FunD X.K x qg pg bg sg [] [] g fdg) (Sg:FnScope Ng [a] sg) (hb:Binds X.K fdg [a] []) (hNg:Ng[0]?=some a) (hva:Vis sg a) (AK:AskTo X Ng qg sg g bg a (X.env.qual++"<lambda>") (TTask X.K cs))
    (hL:(c,He.tabOf X.K c,X.env.qual++"<lambda>")∈lamFns X.K) (TB:LamX.TabB X.base X.mg c (He.tabOf X.K c)) (hcode:X.env.code=.ref c) (hp:LamPar params xs) (L:LamN X.N X.env.scope scope xs) (hr:Room (k + 2) X.A) (hgd:X.A.guards=some [])
    (hbody:∀ (A:Around) (outer:List Env) (s:Shared) (H:Hp) (E:XK) (f c':Addr),Room k (A.deeper (LamX.lamEnv X scope s.heap.objs.size f c'))->A.guards=some []->DE (lamC X A outer s H E scope f c') (fun cls d _ H'=>E cls d H') body te)
    (hK:X.K=K:=by rfl) (hdb:(x == ("__debug__":Str))=false:=by decide) (hd:(a == ("__debug__":Str))=false:=by decide) (hcd:(a == ("__classdict__":Str))=false:=by decide) :
    DE X W (.Call (.Name x p) [.Lambda params body scope lpos] [] pos) (dAsk K cs te):=by
  subst hK
  refine ⟨fun pins s σ H R I h=>?_⟩
  obtain ⟨G,so,sl,Q,E,rep,q,hq,hx⟩:=h
  refine wpAny_Call_Name_kw (ld_glob I hg hm ?_ hdb)
  refine PySem.W.callWith_K (h₀:=X.base) I.ok.mod.kin Fg.kp ?_ (by rfl) (by rfl)
  show wpAny _ _ (spliced ((false,eval (.Lambda params body scope lpos) X.env)::backTo pos (starEach [] X.env))) _ _ s
  have hmem:=rep.h.ok.tb _ hL
  obtain ⟨gP,ps,hP,ht,ha⟩:TabOk G H (He.tabOf X.K c) (X.env.qual++"<lambda>"):=rep.h.vol _ _ hmem
  refine Calls.spliced_cons (akw hp I TB hcode hP ht (fun pos cv hc=>let ⟨c1,e1,e2⟩:=ha pos cv hc;⟨c1,e1,rep.h.ex _ _ e2⟩) (L.has I.ok) fun f c' H1 s' I1 gr la hco=>?_)
  obtain ⟨G1,post⟩:=aiv rep hmem hP gr
  refine Calls.spliced_nil ⟨I1.kIn,?_⟩
  obtain ⟨oc,od,dV,kV,doc,pm,an,cdv,ct,osl,rfl,lk,hcdI,_,_⟩:=Fg.ex
  have e0:=I1.env0
  have hbd:=hb s' [.ref f] I1.kIn rfl
  have hkind:(([a].zip [Value.ref f]).all fun y=>sg.names.lookup y.1 == some .local || sg.names.lookup y.1 == some .cell)=true:=by
    rw [List.all_eq_true]
    rintro ⟨n,u⟩ hy
    rcases Sg.par n (List.of_mem_zip hy).1 with z | z
    · show (sg.names.lookup n == some .local || _)=true
      rw [z];rfl
    · show (sg.names.lookup n == some .local || sg.names.lookup n == some .cell)=true
      rw [z];rfl
  have TT:TTask X.K cs (fun E H' Q'=>up X.K (fun cls d _ H'=>E cls d H') te σ H' Q') H1 R:=by
    refine ⟨G1,so,sl,_,_,post.rep,q,fun v H2 G2 dv s2 p2 q2=>⟨by show 2<=sizeLine;decide,fun l nl=>?_⟩,fun cls d H2 G2 fs s2 p2 xd q2=>?_⟩
    · obtain ⟨G3,p3⟩:=p2.pub
      split at q2
      · rename_i y ey
        rw [ey] at p3
        have vx:DOk X.K G3 v y:=p3.val
        refine hq _ _ _ _ s2 (post.thenE (p3.toPost.thenV (.tuple p3.rep.h nl (.cons (.str "") (.cons vx .nil))))) q2
      · exact q2.elim
    · obtain ⟨C,c0,ys,rfl,ec,lc,fc,q3⟩:=q2
      cases d with
      | none=>
        have z:fs=[]:=xd
        subst z;cases lc
      | some dx=>
        obtain ⟨vs,hv,fa⟩:=xd
        obtain ⟨v0,l1,l2⟩:=fa.look lc
        cases l2
        obtain ⟨xv,f1,f2⟩:=aiG fa fc
        refine ⟨C,dx,vs,c0,xv,rfl,rfl,ec,hv,l1,f1,fun H3 l ex nl tl=>?_⟩
        exact hq _ _ _ _ s2 (post.thenE (p2.thenV (PostV.tupleX p2.rep.h ex nl tl (.cons (.str c0) f2)))) q3
  have rc:codeAny (model X.prog X.w) X.A (.call (.ref g) ⟨[.ref f],[]⟩) (CR (L2N.CX X.prog X.w) X.stack X.prog X.w H1 s' R E0) s':=by
    refine Att.call_fn I1.kIn (e0.mod.nolimit.keeps fun b o e=>(e0.bs b o e).1) lk hcdI hr.depth hbd hkind (fun s2 x2=>?_) Sg.co Sg.gen Sg.kind
    have J:=inv_start (CX:=L2N.CX X.prog X.w) (E:=E0) (vs:=[.ref f]) Sg hr.hd e0 rfl (.cons rfl .nil) x2
    obtain ⟨t',pt,qt⟩:=AK cdv f c' s' H1 R (fun E H' Q'=>up X.K (fun cls d _ H'=>E cls d H') te σ H' Q') (fun W pn xe E p1 p2 tk hW=>amT (i:=0) (tb:=up X.K (fun cls d _ H'=>E cls d H') te) hp I1 L la tk hW (hr.deeper _) hgd (fun A outer s H hr2 hg2=>hbody A outer s H E f c' hr2 hg2) hNg hva hd hcd) hco TT
    refine wpAny_mono (pt.run [] s2 _ H1 _ J qt) (fun fl s3 hs=>?_) fun e s3 hs=>hs
    cases fl with
    | ret u=>
      obtain ⟨v,σ',H',J',rv,z⟩:=hs
      exact ⟨v,H',J'.os,J'.bare,J'.base,J'.hok,rv,z⟩
    | next=>
      obtain ⟨σ',H',J',z⟩:=hs
      exact ⟨.non,H',J'.os,J'.bare,J'.base,J'.hok,rfl,z⟩
    | brk=>obtain ⟨_,_,_,z⟩:=hs;exact False.elim z
    | cont=>obtain ⟨_,_,_,z⟩:=hs;exact False.elim z
  refine wpAny_call (codeAny_mono rc fun r s3 z=>?_)
  cases r with
  | error e=>
    obtain ⟨_,_,_,_,_,_,_,_,_,_,_,_,y⟩:=z
    exact False.elim y
  | ok fl=>
    cases fl with
    | ret u=>exact I1.after z
    | next=>exact False.elim z
    | brk=>exact False.elim z
    | cont=>exact False.elim z
end
abbrev PQ:=(DV->Prop)->XE'->Prop
theorem no_see {ds:List D} {pre:List DV} (h:∀ v∈pre,∀ o,v≠.see o) (i:Nat) (o:OO):(pre++ds.map DV.d)[i]?≠some (.see o):=fun z=>by
  have m:=List.mem_of_getElem? z
  rcases List.mem_append.mp m with m | m
  · exact h _ m o rfl
  · obtain ⟨x,_,e⟩:=List.mem_map.mp m
    cases e
section
variable {P:Program} {w:World} {K:PySem.W.Frag} {mg:Str->Option Value} {base:Heap} {x qual:Str} {params:Arguments} {body:List Stmt} {scope:Scope} {dvs:List V} {kws:List (Str × V)} {fa:Addr} {fd:FuncData} {N:List Str} {k:Nat} {t:TDS}
abbrev BodyD (P:Program) (w:World) (K:PySem.W.Frag) (mg:Str->Option Value) (base:Heap) (N:List Str) (qual:Str) (scope:Scope) (fa:Addr) (k:Nat) (body:List Stmt) (t:TDS):Prop:=
  ∀ (cdv:Value) (A:Around) (outer:List Env) (s:Shared) (H:Hp) (E:XK),Room k (A.deeper (envOfC qual scope s.heap.objs.size fa cdv))->(cxOf (L2N.CX P w) P w K mg base N qual scope fa cdv A outer s H E).A.guards=some []->
    DSs (cxOf (L2N.CX P w) P w K mg base N qual scope fa cdv A outer s H E) (fun cls d _ H'=>E cls d H') body t
abbrev endsF (Q:DV->Prop) (E:XE'):EndsD:={ nx:=fun _=>Q (.d .non),rt:=fun v _=>retQ Q v,bk:=fun _=>False,ct:=fun _=>False,xc:=fun cls fs _=>E cls fs }
def sr0 (f:PQ):SpD:=fun args Q E=>args=[.src]/\f Q E
theorem anf {f:PQ} {ps:Str} (F:FunD K x qual params body scope dvs kws fa fd) (S:FnScope N [ps] scope) (hd:BodyD P w K mg base N qual scope fa k body t) (hr:∀ Q E,f Q E->t (endsF Q E) (startD N [.src])):FnG P w K mg base (k + 1) fa fd [ps] (sr0 f):=
  aef F S (by rintro _ Q E ⟨rfl,h⟩;rfl) (by rintro _ Q E ⟨rfl,h⟩;exact no_see (ds:=[]) (pre:=[.src]) (fun v h o=>by rw [List.mem_singleton.mp h];exact fun z=>by cases z)) hd (by rintro _ Q E ⟨rfl,h⟩;exact hr Q E h)
def sp1 (f:D->PQ):SpD:=fun args Q E=>∃ x0:D,args=[.d x0]/\f x0 Q E
theorem adx {f:D->PQ} {p0:Str} (F:FunD K x qual params body scope dvs kws fa fd) (S:FnScope N [p0] scope) (hd:BodyD P w K mg base N qual scope fa k body t) (hr:∀ x0 Q E,f x0 Q E->t (endsF Q E) (startD N [.d x0])):FnG P w K mg base (k + 1) fa fd [p0] (sp1 f):=
  aef F S (by rintro _ Q E ⟨x0,rfl,h⟩;rfl) (by rintro _ Q E ⟨x0,rfl,h⟩;exact no_see (ds:=[x0]) (pre:=[]) (fun _ h=>by cases h)) hd (by rintro _ Q E ⟨x0,rfl,h⟩;exact hr x0 Q E h)
def sr1 (f:D->PQ):SpD:=fun args Q E=>∃ x0:D,args=[.src,.d x0]/\f x0 Q E
theorem ane {f:D->PQ} {ps:Str} {p0:Str} (F:FunD K x qual params body scope dvs kws fa fd) (S:FnScope N [ps,p0] scope) (hd:BodyD P w K mg base N qual scope fa k body t) (hr:∀ x0 Q E,f x0 Q E->t (endsF Q E) (startD N [.src,.d x0])):FnG P w K mg base (k + 1) fa fd [ps,p0] (sr1 f):=
  aef F S (by rintro _ Q E ⟨x0,rfl,h⟩;rfl) (by rintro _ Q E ⟨x0,rfl,h⟩;exact no_see (ds:=[x0]) (pre:=[.src]) (fun v h o=>by rw [List.mem_singleton.mp h];exact fun z=>by cases z)) hd (by rintro _ Q E ⟨x0,rfl,h⟩;exact hr x0 Q E h)
def sp2 (f:D->D->PQ):SpD:=fun args Q E=>∃ x0:D,∃ x1:D,args=[.d x0,.d x1]/\f x0 x1 Q E
theorem ae6 {f:D->D->PQ} {p0:Str} {p1:Str} (F:FunD K x qual params body scope dvs kws fa fd) (S:FnScope N [p0,p1] scope) (hd:BodyD P w K mg base N qual scope fa k body t) (hr:∀ x0 x1 Q E,f x0 x1 Q E->t (endsF Q E) (startD N [.d x0,.d x1])):FnG P w K mg base (k + 1) fa fd [p0,p1] (sp2 f):=
  aef F S (by rintro _ Q E ⟨x0,x1,rfl,h⟩;rfl) (by rintro _ Q E ⟨x0,x1,rfl,h⟩;exact no_see (ds:=[x0,x1]) (pre:=[]) (fun _ h=>by cases h)) hd (by rintro _ Q E ⟨x0,x1,rfl,h⟩;exact hr x0 x1 Q E h)
def sp3 (f:D->D->D->PQ):SpD:=fun args Q E=>∃ x0:D,∃ x1:D,∃ x2:D,args=[.d x0,.d x1,.d x2]/\f x0 x1 x2 Q E
theorem ala {f:D->D->D->PQ} {p0:Str} {p1:Str} {p2:Str} (F:FunD K x qual params body scope dvs kws fa fd) (S:FnScope N [p0,p1,p2] scope) (hd:BodyD P w K mg base N qual scope fa k body t) (hr:∀ x0 x1 x2 Q E,f x0 x1 x2 Q E->t (endsF Q E) (startD N [.d x0,.d x1,.d x2])):FnG P w K mg base (k + 1) fa fd [p0,p1,p2] (sp3 f):=
  aef F S (by rintro _ Q E ⟨x0,x1,x2,rfl,h⟩;rfl) (by rintro _ Q E ⟨x0,x1,x2,rfl,h⟩;exact no_see (ds:=[x0,x1,x2]) (pre:=[]) (fun _ h=>by cases h)) hd (by rintro _ Q E ⟨x0,x1,x2,rfl,h⟩;exact hr x0 x1 x2 Q E h)
theorem amd {ps:List Str} {sp:Sp} (F:FunD K x qual params body scope dvs kws fa fd) (S:FnScope N ps scope) (len:∀ vs H Q E,sp vs H Q E->vs.length=ps.length)
    (hd:∀ (cdv:Value),fd.code=cdv->∀ (A:Around) (outer:List Env) (s:Shared) (H:Hp) (vs:List V) (Q:VK) (E:XK),Room k (A.deeper (envOfC qual scope s.heap.objs.size fa cdv))->(cxOf (L2N.CX P w) P w K mg base N qual scope fa cdv A outer s H E).A.guards=some []->sp vs H Q E->
      ∃ t,PSs (cxOf (L2N.CX P w) P w K mg base N qual scope fa cdv A outer s H E) body t/\t { nx:=fun _ H'=>Q .non H',rt:=Q } (L2.start N vs) H):FnR P w K mg base (k + 1) fa fd ps sp:=by
  obtain ⟨oc,od,dV,kV,doc,pm,an,cdv,ct,osl,e,lk,hcd,z1,z2⟩:=F.ex
  refine ⟨len,fun A outer s H args us vs Q E hroom hg e0 hb r hsp=>?_⟩
  have KX:K.In s.heap:=e0.mod.kin.keeps fun b o e=>(e0.bs b o e).1
  have lim:s.heap.NoLimit:=e0.mod.nolimit.keeps fun b o e=>(e0.bs b o e).1
  have hkind:((ps.zip us).all fun y=>scope.names.lookup y.1 == some .local || scope.names.lookup y.1 == some .cell)=true:=by
    rw [List.all_eq_true]
    rintro ⟨n,u⟩ hy
    rcases S.par n (List.of_mem_zip hy).1 with z | z
    · show (scope.names.lookup n == some .local || _)=true
      rw [z];rfl
    · show (scope.names.lookup n == some .local || scope.names.lookup n == some .cell)=true
      rw [z];rfl
  subst e
  refine Att.call_fn KX lim lk hcd hroom.depth hb hkind (fun s1 x=>?_) S.co S.gen S.kind
  have I:=inv_start (CX:=L2N.CX P w) (E:=E) S hroom.hd e0 (len _ _ _ _ hsp) r x
  obtain ⟨t,pt,qt⟩:=hd cdv rfl A outer s H vs Q E (hroom.deeper _) hg hsp
  refine wpAny_mono (pt.run [] s1 (L2.start N vs) H _ I qt) (fun fl s' hs=>?_) fun e s' hs=>hs
  cases fl with
  | ret u=>
    obtain ⟨v,σ',H',J,rv,z⟩:=hs
    exact ⟨v,H',J.os,J.bare,J.base,J.hok,rv,z⟩
  | next=>
    obtain ⟨σ',H',J,z⟩:=hs
    exact ⟨.non,H',J.os,J.bare,J.base,J.hok,rfl,z⟩
  | brk=>obtain ⟨_,_,_,z⟩:=hs;exact False.elim z
  | cont=>obtain ⟨_,_,_,z⟩:=hs;exact False.elim z
end
def lamNB (N:List Str) (sc scope:Scope) (xs:List Str):Bool:=
  decide (scope.kind=.function) && (!scope.isCoroutine && (!scope.isGenerator && ((scope.names.all fun y=>!decide (y.2=.cell) && ((!decide (y.2=.local) || !N.contains y.1) && (!decide (y.2=.free) || (decide (sc.names.lookup y.1=some .cell) || decide (sc.names.lookup y.1=some .free))))) && xs.all fun a=>decide (scope.names.lookup a=some .local))))
theorem acU {N:List Str} {sc scope:Scope} {xs:List Str} (h:lamNB N sc scope xs=true):LamN N sc scope xs:=by
  unfold lamNB at h
  simp only [Bool.and_eq_true,Bool.or_eq_true,Bool.not_eq_true',decide_eq_true_eq,decide_eq_false_iff_not,List.all_eq_true] at h
  obtain ⟨h1,h2,h3,h4,h5⟩:=h
  refine ⟨h1,h2,h3,fun y hy=>⟨(h4 y hy).1,fun e=>?_⟩,fun y hy e=>?_,h5⟩
  · rcases (h4 y hy).2.1 with z | z
    · exact absurd e z
    · intro m
      rw [<- Bool.not_eq_true,List.contains_iff_mem] at z
      exact z m
  · rcases (h4 y hy).2.2 with z | z
    · exact absurd e z
    · exact z
def isB:String->D->Bool
  | "int",.int _=>true
  | "int",.bl _=>true
  | "bool",.bl _=>true
  | "str",.str _=>true
  | "tuple",.tup _=>true
  | "tuple",.kt _=>true
  | "list",.lst _=>true
  | _,_=>false
def kinds:List String:=["int","bool","str","tuple","list"]
theorem ajD {T:String} (hT:T∈kinds) {d:D} {t:String} (h:tyD d=some t):kitB t T=some (isB T d):=by
  simp only [kinds,List.mem_cons,List.not_mem_nil,or_false] at hT
  rcases hT with rfl | rfl | rfl | rfl | rfl<;>cases d<;>simp [tyD] at h<;>subst h<;>first | (show kitB _ _=some true;decide +kernel) | (show kitB _ _=some false;decide +kernel)
theorem akz {Q:DV->Prop} {x:DV} {d:D} {T:String} (hx:x.dat=some d) (hk:kindD d=true) (hT:T∈kinds) (q:Q (.d (.bl (isB T d)))):isiR [x,.d (.raw (.ty T))] Q:=by
  obtain ⟨t,ht⟩:=Option.isSome_iff_exists.mp hk
  exact and hx ht (ajD hT ht) q
def isBs (Ts:List String) (d:D):Bool:=Ts.any fun T=>isB T d
theorem ah8 {d:D} {t:String} (h:tyD d=some t):∀ {Ts:List String},(∀ T∈Ts,T∈kinds)->kitBs t Ts=some (isBs Ts d)
  | [],_=>rfl
  | T::Ts,hT=>by
    unfold kitBs
    rw [ajD (hT T (List.mem_cons_self ..)) h,ah8 h fun z hz=>hT z (List.mem_cons_of_mem _ hz)]
    have e:isBs (T::Ts) d=(isB T d || isBs Ts d):=rfl
    rw [e]
    cases isB T d<;>rfl
theorem ak4 {Q:DV->Prop} {x:DV} {d:D} {ts:List D} {Ts:List String} (hx:x.dat=some d) (hk:kindD d=true) (h2:tysD ts=some Ts) (hT:∀ T∈Ts,T∈kinds) (q:Q (.d (.bl (isBs Ts d)))):isiTR [x,.d (.tup ts)] Q:=by
  obtain ⟨t,ht⟩:=Option.isSome_iff_exists.mp hk
  exact am4 hx h2 ht (ah8 ht hT) q
def strsA:List Str->TA
  | []=>tNil
  | s::r=>tCons (tC (.str s)) (strsA r)
theorem ahS {σ:L2.St} {H:Hp}:∀ (ss:List Str) {R:List V->Hp->Prop},R (ss.map V.str) H->strsA ss σ H R
  | [],_,h=>h
  | s::r,R,h=>ahS (σ:=σ) r (R:=fun xs H2=>R (V.str s::xs) H2) h
theorem ajJ (c:Str):∀ ss:List Str,inV (.str c) (ss.map V.str)=decide (c∈ss)
  | []=>rfl
  | s::r=>by
    unfold inV
    rw [List.map_cons,List.any_cons]
    have ih:=ajJ c r
    unfold inV at ih
    rw [ih]
    show ((s == c) || decide (c∈r))=_
    by_cases e:s=c
    · subst e;simp
    · have e':¬ c=s:=fun z=>e z.symm
      have:(s == c)=false:=beq_eq_false_iff_ne.mpr e
      rw [this,Bool.false_or]
      simp [e']
section
variable {K:PySem.W.Frag} {p:Addr × Obj} {C dx:Addr} {fs:List (Str × V)} {c:Str} {σ:L2.St} {H:Hp}
theorem aln {f:Str} {v:V} {Q:VK} (px:PinX K p C dx) (no:PySem.W.findIn K (.ref C) f=some none) (hd:H dx=some (.xd fs)) (hσ:σ[0]?=some (some (.ref p.1))) (l:fs.lookup f=some v) (q:Q v H):tXfP K p f (tVar 0) σ H Q:=
  ⟨.ref p.1,hσ,rfl,C,dx,fs,v,px,no,hd,l,q⟩
theorem t_in (ss:List Str) {R:Bool->Hp->Prop} (px:PinX K p C dx) (no:PySem.W.findIn K (.ref C) "code"=some none) (hd:H dx=some (.xd fs)) (hσ:σ[0]?=some (some (.ref p.1))) (lc:fs.lookup ("code":Str)=some (.str c)) (hl:ss.length<=1000)
    (h:∀ l,H l=none->R (decide (c∈ss)) (upd H l (.tup (ss.map V.str)))):tTest (tOp (rIn K false) (tXfP K p "code" (tVar 0)) (tTup (strsA ss))) σ H R:=by
  show tXfP K p "code" (tVar 0) σ H (fun x H1=>tTup (strsA ss) σ H1 fun y H2=>rIn K false x y H2 fun x H'=>∃ k,x=.bl k/\R k H')
  refine aln px no hd hσ lc ?_
  refine ahS ss ⟨by rw [List.length_map,sizeLine_eq];omega,fun l nl=>⟨l,ss.map V.str,rfl,.inr (SqT.of upd_same),rfl,?_,_,rfl,?_⟩⟩
  · rw [List.all_eq_true]
    intro v hv
    obtain ⟨s,_,rfl⟩:=List.mem_map.mp hv
    rfl
  · have e:(if false=true then !inV (.str c) (ss.map V.str) else inV (.str c) (ss.map V.str))=decide (c∈ss):=by rw [if_neg Bool.false_ne_true];exact ajJ c ss
    rw [e]
    exact h l nl
theorem t_eq (s:Str) {R:Bool->Hp->Prop} (px:PinX K p C dx) (no:PySem.W.findIn K (.ref C) "code"=some none) (hd:H dx=some (.xd fs)) (hσ:σ[0]?=some (some (.ref p.1))) (lc:fs.lookup ("code":Str)=some (.str c)) (h:R (decide (c=s)) H) :
    tTest (tOp rEq (tXfP K p "code" (tVar 0)) (tC (.str s))) σ H R:=by
  show tXfP K p "code" (tVar 0) σ H (fun x H1=>rEq x (.str s) H1 fun x H'=>∃ k,x=.bl k/\R k H')
  refine aln px no hd hσ lc ⟨rfl,_,rfl,?_⟩
  rw [decS];exact h
end
abbrev XTxt:=Arguments × List Stmt × Scope
structure XSpec where
  name:Str
  base:Nat
  flds:List Str
  text:XTxt
def xBase:Nat->String × String × String × List Value
  | 0=>("ValueError","ValueError.__new__","ValueError.__init__",[.type "ValueError",.type "Exception",.type "BaseException",.type "object"])
  | 1=>("LookupError","LookupError.__new__","LookupError.__init__",[.type "LookupError",.type "Exception",.type "BaseException",.type "object"])
  | _=>("IndexError","IndexError.__new__","IndexError.__init__",[.type "IndexError",.type "LookupError",.type "Exception",.type "BaseException",.type "object"])
theorem aj4 (n:Nat):ExBase (xBase n).1 (xBase n).2.1 (xBase n).2.2.1 (xBase n).2.2.2:=by
  match n with
  | 0=>exact ⟨PySem.F.excBase_ValueError,PySem.W.kxs_ValueError,PySem.F.store_ValueError⟩
  | 1=>exact ⟨PySem.F.excBase_LookupError,PySem.W.kxs_LookupError,PySem.F.store_LookupError⟩
  | n + 2=>exact ⟨PySem.F.excBase_IndexError,PySem.W.kxs_IndexError,PySem.F.store_IndexError⟩
def initAt (K:PySem.W.Frag) (C:Addr):Addr:=match PySem.W.findIn K (.ref C) "__init__" with
  | some (some (.ref f))=>f
  | _=>0
def exObs (K:PySem.W.Frag) (C:Addr):Option XTxt:=match K.lookup (initAt K C) with
  | some ⟨_,_,.func fd,_⟩=>(match fd.body with
    | .stmts b=>some (fd.params,b,fd.scope)
    | _=>none)
  | _=>none
def nonV:Value->Bool
  | .none=>true
  | _=>false
theorem ajn {v:Value} (h:nonV v=true):v=.none:=by cases v<;>first | rfl | cases h
def fnShape (K:PySem.W.Frag) (file:Str) (fI C:Addr):Bool:=match K.lookup fI with
  | some ⟨_,_,.func fd,_⟩=>decide (fd.globals=mainGlobals) && (decide (fd.builtins=builtinsNs) && (nonV fd.defaults && (nonV fd.kwdefaults && (match fd.closure,fd.code with
    | [(x,cc)],.ref cda=>decide (x="__class__") && (PySem.W.codeIn K (.ref cda) fd.qualname && ((match K.lookup cda with
        | some ⟨_,_,.fields vs,_⟩=>(match (vs[2]? : Option Value) with
          | some (.str f _)=>decide (f=file)
          | _=>false)
        | _=>false) && (match K.lookup cc with
        | some ⟨_,_,.cell (some (.ref D)),_⟩=>decide (D=C)
        | _=>false)))
    | _,_=>false))))
  | _=>false
theorem aj9 {K:PySem.W.Frag} {file:Str} {C:Addr} {params:Arguments} {body:List Stmt} {scope:Scope} (h:fnShape K file (initAt K C) C=true) (e:exObs K C=some (params,body,scope)) :
    ∃ (oc:Value) (od:Option Addr) (osl:Array (Option Value)) (name qual:Str) (doc pm:Value) (an:Option Addr) (cda cc:Addr) (ct:Value) (vs:Array Value) (tf:Tok) (ccl cl:Value) (cdd cld:Option Addr) (ccs csl:Array (Option Value)),
    K.lookup (initAt K C)=some ⟨oc,od,.func (PySem.W.ksFn name qual params body scope .none .none doc pm an (.ref cda) ct cc),osl⟩/\PySem.W.codeIn K (.ref cda) qual=true/\K.lookup cda=some ⟨ccl,cdd,.fields vs,ccs⟩/\vs[2]?=some (.str file tf)/\K.lookup cc=some ⟨cl,cld,.cell (some (.ref C)),csl⟩:=by
  unfold fnShape at h
  unfold exObs at e
  split at h
  · rename_i oc od fd osl lk
    rw [lk] at e
    obtain ⟨nm,ql,pr,bd,sc,gl,cl,df,kd,doc,pm,an,cd,ct,bn⟩:=fd
    dsimp only at h e
    obtain ⟨h1,h⟩:=He.ba h
    obtain ⟨h2,h⟩:=He.ba h
    obtain ⟨h3,h⟩:=He.ba h
    obtain ⟨h4,h⟩:=He.ba h
    split at h
    · rename_i x cc cda
      obtain ⟨h5,h⟩:=He.ba h
      obtain ⟨h6,h⟩:=He.ba h
      obtain ⟨h7,h8⟩:=He.ba h
      split at e
      · rename_i b
        cases e
        have e1:=of_decide_eq_true h1
        have e2:=of_decide_eq_true h2
        have e5:=of_decide_eq_true h5
        have e3:=ajn h3
        have e4:=ajn h4
        subst e1 e2 e3 e4 e5
        split at h7
        · rename_i ccl cdd vs ccs lkc
          split at h7
          · rename_i f tf hv
            have e7:=of_decide_eq_true h7
            subst e7
            split at h8
            · rename_i cl cld D csl lcc
              have e8:=of_decide_eq_true h8
              subst e8
              exact ⟨_,_,_,_,_,_,_,_,_,_,_,_,_,_,_,_,_,_,_,lk,h6,lkc,hv,lcc⟩
            · cases h8
          · cases h7
        · cases h7
      · cases e
    · cases h
  · cases h
def csA (K:PySem.W.Frag):List Value:=[.ref (He.ga K "MilesError"),.ref (He.ga K "Missing"),.ref (He.ga K "NothingLeft")]
def xB (K:PySem.W.Frag) (file:Str) (ask:Bool) (e:XSpec):Bool:=
  let C:=He.ga K e.name
  let b:=xBase e.base
  decide (PySem.W.findIn K (.ref C) "__setattr__"=some (some (.builtin "object.__setattr__"))) &&
  (PySem.W.excOver K C b.2.2.2 &&
  (PySem.W.hasDictIn K C &&
  (PySem.W.excInitIn K C b.2.2.2 b.2.1 &&
  (decide (PySem.W.findIn K (.ref C) "__init__"=some (some (.ref (initAt K C)))) &&
  (decide (PySem.W.typeIn K (.ref (initAt K C))=some (.type "function")) &&
  (decide (PySem.W.ks_superIn K C C "__init__"=some (some (.builtin b.2.2.1))) &&
  (decide (PySem.W.subIn K (.ref C) (.type b.1)=some true) &&
  (decide (PySem.W.mroIn K C (.ref C)=some true) &&
  (decide (PySem.W.subIn K (.ref C) (.type "BaseException")=some true) &&
  (decide (PySem.W.typeIn K (.ref C)=some (.type "type")) &&
  (PySem.W.keepIn K (.ref C) &&
  (decide (PySem.W.nsIn K cStatics "thirdparty.any"=some none) &&
  (fnShape K file (initAt K C) C &&
  ((e.flds.all fun f=>decide (PySem.W.takerIn K C f=some none)) &&
  (!ask || (xfB K C &&
  ((errFields.all fun f=>decide (PySem.W.findIn K (.ref C) f=some none)) && decide (PySem.W.exmAny K (.ref C) (csA K)=some true))))))))))))))))))
structure XOk' (K:PySem.W.Frag) (file:Str) (ask:Bool) (e:XSpec):Prop where
  k:ExK K file (He.ga K e.name) (initAt K (He.ga K e.name)) e.text.1 e.text.2.1 e.text.2.2 (xBase e.base).1 (xBase e.base).2.1 (xBase e.base).2.2.1 (xBase e.base).2.2.2
  t:∀ f∈e.flds,PySem.W.takerIn K (He.ga K e.name) f=some none
  r:ask=true->ErrC K (csA K) (He.ga K e.name)
theorem xB_ok {K:PySem.W.Frag} {file:Str} {ask:Bool} {e:XSpec} (h:xB K file ask e=true) (ht:exObs K (He.ga K e.name)=some e.text):XOk' K file ask e:=by
  unfold xB at h
  dsimp only at h
  obtain ⟨h1,h⟩:=He.ba h
  obtain ⟨h2,h⟩:=He.ba h
  obtain ⟨h3,h⟩:=He.ba h
  obtain ⟨h4,h⟩:=He.ba h
  obtain ⟨h5,h⟩:=He.ba h
  obtain ⟨h6,h⟩:=He.ba h
  obtain ⟨h7,h⟩:=He.ba h
  obtain ⟨h8,h⟩:=He.ba h
  obtain ⟨h9,h⟩:=He.ba h
  obtain ⟨h10,h⟩:=He.ba h
  obtain ⟨h11,h⟩:=He.ba h
  obtain ⟨h12,h⟩:=He.ba h
  obtain ⟨h13,h⟩:=He.ba h
  obtain ⟨h14,h⟩:=He.ba h
  obtain ⟨h15,h16⟩:=He.ba h
  refine ⟨⟨⟨of_decide_eq_true h1,h2,h3⟩,h4,of_decide_eq_true h5,of_decide_eq_true h6,of_decide_eq_true h7,of_decide_eq_true h8,of_decide_eq_true h9,of_decide_eq_true h10,of_decide_eq_true h11,h12,of_decide_eq_true h13,aj9 h14 ht⟩,fun f hf=>of_decide_eq_true (List.all_eq_true.mp h15 f hf),fun ha=>?_⟩
  rw [ha] at h16
  obtain ⟨z1,z⟩:=He.ba (show (xfB K (He.ga K e.name) && _)=true from h16)
  obtain ⟨z2,z3⟩:=He.ba z
  exact ⟨xfB_ok z1,fun f hf=>of_decide_eq_true (List.all_eq_true.mp z2 f hf),of_decide_eq_true z3⟩
theorem XOk'.cls {K:PySem.W.Frag} {file:Str} {ask:Bool} {e:XSpec} {P:Program} {mg:Str->Option Value} {self:Str} {ps:List Str} {fs:List (Str × (Str ⊕ Str))} (h:XOk' K file ask e) (T:ExT e.text.2.1 e.text.1 e.text.2.2 self ps fs) (hf:((P.main.file:Str) == file)=true) (ht:(P.main.scope.names.lookup ("super":Str)).isSome=false)
    (hb:∀ (e':Addr) (us:List Value),us.length=ps.length->∀ (name qual:Str) (doc pm:Value) (an:Option Addr) (cda ct:Value) (cc:Addr),bindArgs (PySem.W.ksFn name qual e.text.1 e.text.2.1 e.text.2.2 .none .none doc pm an cda ct cc) ⟨.ref e'::us,[]⟩=pure ((self::ps).zip (.ref e'::us)))
    (hfl:∀ f∈fs,f.1∈e.flds) (ne:∀ vs,xdV ps fs vs≠[]) (su:mg ("super":Str)=none) (ln:ps.length<=1000):XCls P K mg (He.ga K e.name) ps fs:=
  ⟨⟨file,_,_,_,_,_,_,_,_,self,aj4 _,h.k,T,hf,ht,hb⟩,fun f hf=>h.t f.1 (hfl f hf),ne,su,h.k.kC,ln⟩
structure LY extends LX where
  file:Str
  ask:Bool
  ex:List XSpec
abbrev AlY:Type:=Bool × He.AlD × List (Option XTxt)
def LY.ok (l:LY) (g:Addr->Option Obj) (K:PySem.W.Frag):Bool:=l.toLX.ok g K && l.ex.all fun e=>xB K l.file l.ask e
def valY (l:LY) (fn:List He.DefD):AlY:=(true,He.valD fn,l.ex.map fun e=>some e.text)
structure SaysY (l:LY) (fa:List He.Fa) (fn:List He.DefD) (h:Heap) (K:PySem.W.Frag):Prop extends SaysX l.toLX fa fn h K where
  x:∀ e∈l.ex,XOk' K l.file l.ask e
def wtK (b:Nat):Key->Nat
  | .inl _=>b + 1
  | .inr z=>10 * z.length + 2
def FineK (b:Nat):Key->Prop
  | .inl i=>i.natAbs < 10 ^ b
  | .inr z=>∀ c∈z.cps.toList,c < 0x110000
def wtKs (b:Nat):List Key->Nat
  | []=>0
  | k::r=>wtK b k + 2 + wtKs b r
mutual
def wt (b:Nat):D->Nat
  | .int _=>b + 1
  | .str z=>10 * z.length + 2
  | .lst ds=>wts b ds + 3
  | .tup ds=>wts b ds + 3
  | .kt ks=>wtKs b ks + 3
  | _=>5
def wts (b:Nat):List D->Nat
  | []=>0
  | d::r=>wt b d + 2 + wts b r
end
mutual
def dep:D->Nat
  | .lst ds=>deps ds + 1
  | .tup ds=>deps ds + 1
  | .kt _=>1
  | _=>0
def deps:List D->Nat
  | []=>0
  | d::r=>max (dep d) (deps r)
end
mutual
def Fine (b:Nat):D->Prop
  | .int i=>i.natAbs < 10 ^ b
  | .str z=>∀ c∈z.cps.toList,c < 0x110000
  | .lst ds=>Fines b ds
  | .tup ds=>Fines b ds
  | .non=>True
  | .bl _=>True
  | .ins _ _=>False
  | .dk _=>False
  | .dt _=>False
  | .any=>False
  | .raw _=>False
  | .kt ks=>∀ k∈ks,FineK b k
def Fines (b:Nat):List D->Prop
  | []=>True
  | d::r=>Fine b d/\Fines b r
end
theorem Shw.intN {i:Int} {b:Nat} (hk:0 < b) (h2:b<=500) (h:i.natAbs < 10 ^ b):Shw 0 (b + 1) (.int i) (.int i):=by
  refine ⟨rfl,by simp [PyData.canLay0],by simp [PyData.depth],?_,?_⟩
  · simp only [PyData.showable]
    refine decide_eq_true ?_
    rcases Nat.eq_zero_or_pos i.natAbs with z | z
    · rw [z];decide
    refine (Nat.log2_lt (by omega)).mpr ?_
    refine Nat.lt_of_lt_of_le h (Nat.le_trans (Nat.pow_le_pow_right (by decide) h2) ?_)
    decide +kernel
  · simp only [PyData.shown]
    rcases Int.lt_or_le i 0 with z | z
    · have e:i=-((i.natAbs:Nat):Int):=by omega
      have h0:(toString (i.natAbs:Int):Str).length<=b:=toString_length_le (by omega) hk (by
        have:((i.natAbs:Nat):Int) < ((10 ^ b:Nat):Int):=Int.ofNat_lt.mpr h
        simpa using this)
      rw [e]
      generalize hm:i.natAbs=m at *
      cases m with
      | zero=>omega
      | succ m=>
        have e2:(toString (-((m + 1:Nat):Int)):String)="-"++toString ((m + 1:Nat):Int):=rfl
        have e3:((toString (-((m + 1:Nat):Int)):String):Str).length=((toString ((m + 1:Nat):Int):String):Str).length + 1:=by
          rw [e2,PySem.ofString_length,PySem.ofString_length,String.length_append]
          have:("-":String).length=1:=rfl
          omega
        rw [e3]
        omega
    · have:=toString_length_le z hk (v:=i) (by
        have:((i.natAbs:Nat):Int) < ((10 ^ b:Nat):Int):=Int.ofNat_lt.mpr h
        rw [Int.natAbs_of_nonneg z] at this
        simpa using this)
      omega
structure ShwS (n L:Nat) (ds:List D) (ps:List PyData):Prop where
  py:D.pyAll ds=some ps
  lay:PyData.canLayAll0 ps=true
  dp:PyData.depthAll ps<=n
  sw:PyData.showableAll ps=true
  ln:((PyData.shownAll ps).map fun t=>t.length + 2).sum<=L
theorem ad8:∀ (ts:List Str) (k:Nat) (acc:Str),(PySem.textFrom k acc ts).length<=acc.length + (ts.map fun t=>t.length + 2).sum
  | [],k,acc=>by show acc.length<=_;simp
  | t::r,k,acc=>by
    have h1:=ad8 r (k + 1) (acc++(if k > 0 then ", " else "":String)++t)
    have e:(acc++(if k > 0 then ", " else "":String)++t).length=acc.length + (if k > 0 then 2 else 0) + t.length:=by
      rw [strLen_append,strLen_append]
      split<;>rfl
    rw [e] at h1
    show (PySem.textFrom (k + 1) (acc++(if k > 0 then ", " else "":String)++t) r).length<=_
    rw [List.map_cons,List.sum_cons]
    have h3:(if k > 0 then 2 else 0)<=2:=by split<;>omega
    omega
theorem ah9:∀ ts:List Str,(Str.join ", " ts).length<=(ts.map fun t=>t.length + 2).sum
  | []=>by show 0<=_;omega
  | [x]=>by show x.length<=x.length + 2 + 0;omega
  | x::y::r=>by
    have h1:=ah9 (y::r)
    show (x++", "++Str.join ", " (y::r)).length<=_
    rw [strLen_append,strLen_append,List.map_cons,List.sum_cons]
    have e2:((", ":String):Str).length=2:=rfl
    omega
theorem ShwS.lst {n L:Nat} {ds:List D} {ps:List PyData} (h:ShwS n L ds ps):Shw (n + 1) (L + 3) (.lst ds) (.list ps):=by
  refine ⟨by unfold D.py;rw [h.py];rfl,by unfold PyData.canLay0;exact h.lay,by unfold PyData.depth;have:=h.dp;omega,by unfold PyData.showable;exact h.sw,?_⟩
  unfold PyData.shown listText
  rw [strLen_append]
  have:=ad8 (PyData.shownAll ps) 0 "["
  have e1:(("[":String):Str).length=1:=rfl
  have e2:(("]":String):Str).length=1:=rfl
  have:=h.ln
  omega
theorem ShwS.tup {n L:Nat} {ds:List D} {ps:List PyData} (h:ShwS n L ds ps):Shw (n + 1) (L + 3) (.tup ds) (.tuple ps):=by
  refine ⟨by unfold D.py;rw [h.py];rfl,by unfold PyData.canLay0;exact h.lay,by unfold PyData.depth;have:=h.dp;omega,by unfold PyData.showable;exact h.sw,?_⟩
  unfold PyData.shown tupleText
  rw [strLen_append,strLen_append]
  have e1:(("(":String):Str).length=1:=rfl
  have e2:((if (PyData.shownAll ps).length == 1 then ",)" else ")":String):Str).length<=2:=by split<;>decide
  have e3:=ah9 (PyData.shownAll ps)
  have:=h.ln
  omega
section
variable {b:Nat} (hb:0 < b) (h5:b<=500)
include hb h5
theorem ag8:∀ ks:List Key,(∀ k∈ks,FineK b k)->ShwS 0 (wtKs b ks) (ks.map keyD) (ks.map keyPy)
  | [],_=>⟨by simp [D.pyAll],by simp [PyData.canLayAll0],by simp [PyData.depthAll],by simp [PyData.showableAll],by simp [PyData.shownAll]⟩
  | k::r,h=>by
    have e1:Shw 0 (wtK b k) (keyD k) (keyPy k):=by
      have hk:=h k (List.mem_cons_self ..)
      cases k with
      | inl i=>exact Shw.intN hb h5 hk
      | inr z=>exact Shw.str hk (Nat.le_refl _)
    have e2:=ag8 r fun x hx=>h x (List.mem_cons_of_mem _ hx)
    refine ⟨?_,?_,?_,?_,?_⟩
    · rw [List.map_cons,List.map_cons];unfold D.pyAll;rw [e1.py,e2.py]
    · rw [List.map_cons];unfold PyData.canLayAll0;rw [e1.lay,e2.lay];rfl
    · rw [List.map_cons];unfold PyData.depthAll
      have:=e1.dp;have:=e2.dp
      omega
    · rw [List.map_cons];unfold PyData.showableAll;rw [e1.sw,e2.sw];rfl
    · rw [List.map_cons];unfold PyData.shownAll;rw [wtKs,List.map_cons,List.sum_cons]
      have:=e1.ln;have:=e2.ln
      omega
mutual
theorem agq:∀ d:D,Fine b d->∃ p,Shw (dep d) (wt b d) d p
  | .non,_=>⟨_,Shw.non.mono (Nat.le_refl _) (by show 4<=5;omega)⟩
  | .bl x,_=>⟨_,Shw.bl x⟩
  | .int i,h=>⟨_,Shw.intN hb h5 (by simpa only [Fine] using h)⟩
  | .str z,h=>⟨_,Shw.str (by simpa only [Fine] using h) (Nat.le_refl _)⟩
  | .lst ds,h=>let ⟨ps,e⟩:=ae7 ds (by simpa only [Fine] using h);⟨_,(by simpa only [dep,wt] using e.lst)⟩
  | .tup ds,h=>let ⟨ps,e⟩:=ae7 ds (by simpa only [Fine] using h);⟨_,(by simpa only [dep,wt] using e.tup)⟩
  | .ins _ _,h=>by simp [Fine] at h
  | .dk _,h=>by simp [Fine] at h
  | .dt _,h=>by simp [Fine] at h
  | .any,h=>by simp [Fine] at h
  | .raw _,h=>by simp [Fine] at h
  | .kt ks,h=>by
    have h':∀ k∈ks,FineK b k:=by simpa only [Fine] using h
    have z:=(ag8 hb h5 ks h').tup
    exact ⟨_,⟨by rw [D.py],z.lay,by rw [dep];exact z.dp,z.sw,by rw [wt];exact z.ln⟩⟩
theorem ae7:∀ ds:List D,Fines b ds->∃ ps,ShwS (deps ds) (wts b ds) ds ps
  | [],_=>⟨[],by simp [D.pyAll],by simp [PyData.canLayAll0],by simp [PyData.depthAll],by simp [PyData.showableAll],by simp [PyData.shownAll]⟩
  | d::r,h=>by
    rw [Fines] at h
    obtain ⟨p,e1⟩:=agq d h.1
    obtain ⟨ps,e2⟩:=ae7 r h.2
    refine ⟨p::ps,?_,?_,?_,?_,?_⟩
    · unfold D.pyAll;rw [e1.py,e2.py]
    · unfold PyData.canLayAll0;rw [e1.lay,e2.lay];rfl
    · unfold PyData.depthAll;rw [deps]
      have:=e1.dp;have:=e2.dp
      omega
    · unfold PyData.showableAll;rw [e1.sw,e2.sw];rfl
    · unfold PyData.shownAll;rw [wts,List.map_cons,List.sum_cons]
      have:=e1.ln;have:=e2.ln
      omega
end
theorem akC {ds:List D} (h:Fines b ds) (h1:deps ds<=60) (h2:wts b ds<=16000000):∃ p,Shows (.lst ds) p:=by
  obtain ⟨p,e⟩:=agq hb h5 (.lst ds) (by simpa only [Fine] using h)
  refine ⟨p,e.shows (.inl ⟨_,rfl⟩) (by rw [dep];omega) (by rw [wt];have:szl=16777216:=rfl;omega)⟩
theorem akB {ds:List D} (h:Fines b ds) (h1:deps ds<=60) (h2:wts b ds<=16000000):∃ p,Shows (.tup ds) p:=by
  obtain ⟨p,e⟩:=agq hb h5 (.tup ds) (by simpa only [Fine] using h)
  refine ⟨p,e.shows (.inr ⟨_,rfl⟩) (by rw [dep];omega) (by rw [wt];have:szl=16777216:=rfl;omega)⟩
end
theorem fcons {b:Nat} {d:D} {r:List D} (h:Fine b d) (t:Fines b r):Fines b (d::r):=by rw [Fines];exact ⟨h,t⟩
theorem fint {b:Nat} {i:Int} (h:i.natAbs < 10 ^ b):Fine b (.int i):=by rw [Fine];exact h
theorem fstr {b:Nat} {z:Str} (h:∀ c∈z.cps.toList,c < 0x110000:=by decide +kernel):Fine b (.str z):=by rw [Fine];exact h
theorem ftup {b:Nat} {ds:List D} (h:Fines b ds):Fine b (.tup ds):=by rw [Fine];exact h
theorem ako {ta:TDA} {u:TDS} {E:EndsD} {sl:DSt} {i j:Nat} (R:D->D->Prop) (h:∀ Q:List DV->DSt->Prop,(∀ x y,R x y->Q [.d x,.d y] sl)->ta sl Q E.xc) (q:∀ x y,R x y->u E ((sl.set i (some (.d x))).set j (some (.d y)))):dSeq (dPar i j ta) u E sl:=h _ fun x y r=>q x y r
theorem akg (b:Nat) {Q:DV->Prop} {E:XE'} {ds es:List D} (he:ds=es) (h:Fines b es) (q:Q (.d (.bl true))) (h1:deps es<=60:=by first | decide | exact Nat.le_of_ble_eq_true rfl) (h2:wts b es<=16000000:=by first | decide | exact Nat.le_of_ble_eq_true rfl) (hb:0 < b:=by decide) (h5:b<=500:=by decide):spSame [.d (.lst ds),.d (.lst es)] Q E:=by
  subst he
  obtain ⟨p,s⟩:=akC hb h5 h h1 h2
  exact agR s q
theorem akf (b:Nat) {Q:DV->Prop} {E:XE'} {ds es:List D} (he:ds=es) (h:Fines b es) (q:Q (.d (.bl true))) (h1:deps es<=60:=by first | decide | exact Nat.le_of_ble_eq_true rfl) (h2:wts b es<=16000000:=by first | decide | exact Nat.le_of_ble_eq_true rfl) (hb:0 < b:=by decide) (h5:b<=500:=by decide):spSame [.d (.tup ds),.d (.tup es)] Q E:=by
  subst he
  obtain ⟨p,s⟩:=akB hb h5 h h1 h2
  exact agR s q
def kinds6:List String:=["NoneType","bool","int","str","list","tuple"]
def numB (K:PySem.W.Frag) (C:Addr):Bool:=(match PySem.W.clsIn K C with
  | some cd=>(match cd.mro with
    | x::_=>decide (x=.ref C)
    | []=>false)
  | none=>false) && (decide (PySem.W.findIn K (.ref C) "__rmul__"=some none) && decide (PySem.W.findIn K (.ref C) "__radd__"=some none))
structure CInst (K:PySem.W.Frag) (C:Addr):Prop where
  cl:Cls K C
  gc:PySem.W.findIn K (.ref C) "__class__"=some (some (.builtin "object.__class__"))
  gs:PySem.W.specialIn K (.builtin "object.__class__") "__get__"=some (some (.builtin "getset_descriptor.__get__"))
  gt:PySem.W.takesIn K (.builtin "object.__class__")=some true
  mo:PySem.W.mroIn K C (.type "object")=some true
  own:PySem.W.kitOne K (.ref C) (.ref C)=some true
  no:∀ t∈kinds6,PySem.W.kitOne K (.type t) (.ref C)=some false
  ty:∀ t∈kinds6,PySem.W.kitOne K (.ref C) (.type t)=some false
  sub:∀ t∈kinds6,PySem.W.subIn K (.type t) (.ref C)=some false
  ne:PySem.W.findIn K (.ref C) "__ne__"=some (some (.builtin "object.__ne__"))
  nu:numB K C=true
def cB (K:PySem.W.Frag) (C:Addr):Bool:=numB K C && (
  decide (PySem.W.plainGet K C Str.empty=true) && (PySem.W.hasDictIn K C && (PySem.W.plainOver K C && (decide (PySem.W.findIn K (.ref C) "__setattr__"=some (some (.builtin "object.__setattr__"))) &&
  (decide (PySem.W.findIn K (.ref C) "__class__"=some (some (.builtin "object.__class__"))) &&
  (decide (PySem.W.specialIn K (.builtin "object.__class__") "__get__"=some (some (.builtin "getset_descriptor.__get__"))) &&
  (decide (PySem.W.takesIn K (.builtin "object.__class__")=some true) &&
  (decide (PySem.W.mroIn K C (.type "object")=some true) &&
  (decide (PySem.W.kitOne K (.ref C) (.ref C)=some true) &&
  ((kinds6.all fun t=>decide (PySem.W.kitOne K (.type t) (.ref C)=some false)) &&
  ((kinds6.all fun t=>decide (PySem.W.kitOne K (.ref C) (.type t)=some false)) &&
  ((kinds6.all fun t=>decide (PySem.W.subIn K (.type t) (.ref C)=some false)) &&
  decide (PySem.W.findIn K (.ref C) "__ne__"=some (some (.builtin "object.__ne__")))))))))))))))
theorem cB_ok {K:PySem.W.Frag} {C:Addr} (h:cB K C=true):CInst K C:=by
  unfold cB at h
  obtain ⟨h0,h⟩:=He.ba h
  obtain ⟨h1,h⟩:=He.ba h
  obtain ⟨h2,h⟩:=He.ba h
  obtain ⟨h3,h⟩:=He.ba h
  obtain ⟨h4,h⟩:=He.ba h
  obtain ⟨h5,h⟩:=He.ba h
  obtain ⟨h6,h⟩:=He.ba h
  obtain ⟨h7,h⟩:=He.ba h
  obtain ⟨h8,h⟩:=He.ba h
  obtain ⟨h9,h⟩:=He.ba h
  obtain ⟨h10,h⟩:=He.ba h
  obtain ⟨h11,h⟩:=He.ba h
  obtain ⟨h12,h13⟩:=He.ba h
  exact ⟨⟨of_decide_eq_true h1,h2,h3,of_decide_eq_true h4⟩,of_decide_eq_true h5,of_decide_eq_true h6,of_decide_eq_true h7,of_decide_eq_true h8,of_decide_eq_true h9,fun t ht=>of_decide_eq_true (List.all_eq_true.mp h10 t ht),
    fun t ht=>of_decide_eq_true (List.all_eq_true.mp h11 t ht),fun t ht=>of_decide_eq_true (List.all_eq_true.mp h12 t ht),of_decide_eq_true h13,h0⟩
section
variable {K:PySem.W.Frag} {G H:Hp} {so:So} {v:V} {dv:DV} {C:Addr} {fs:List (Str × D)}
end
section
variable {X:Cx} {k:Nat} {f C:Addr} {fd:FuncData} {ps:List Str} {sp:SpD}
end
section
variable {M:Model} {prog:Program} {w:World} {A:Around} {E:Value->Shared->Prop} {s:Shared} {K:PySem.W.Frag} {x C f L:Addr} {ox:Obj} {od:Option Obj} {h₀:Heap} {m:Str->Option Value} {b tb:Value}
end
section
variable {X:Cx} {k:Nat} {f C:Addr} {fd:FuncData} {ps:List Str} {sp:SpD}
end
section
variable {X:Cx} {W:WX} {e:Expr} {es:List Expr} {te:TD} {tr:TDA} {p pos:Pos}
@[irreducible] def fmtR (x:DV) (Q:DV->Prop):Prop:=match x with
  | .d (.str z)=>z.length<=szl/\Q (.d (.str z))
  | .d (.int i)=>i.natAbs.log2 < 1920/\Q (.d (.str (toString i)))
  | _=>False
theorem ajV (he:DE X W e te):DE X W (.FormattedValue e (-1) none pos) (dUn fmtR te):=by
  refine aa6 (pe_fmt he) fun σ H R ⟨G,so,sl,Q,E,rep,q,hq,hx⟩=>?_
  refine ⟨G,so,sl,_,E,rep,q,fun x H1 G1 dx s1 p1 h1=>?_,hx⟩
  unfold fmtR at h1
  split at h1
  · have w:=p1.val
    cases w
    exact .inl ⟨_,rfl,by rw [<- aci];exact h1.1,hq _ H1 G1 _ s1 (p1.toPost.thenV (.dat p1.rep.h (.str _))) h1.2⟩
  · have w:=p1.val
    cases w
    exact .inr ⟨_,rfl,h1.1,hq _ H1 G1 _ s1 (p1.toPost.thenV (.dat p1.rep.h (.str _))) h1.2⟩
  · exact h1.elim
theorem am6 {z:Str} {Q:DV->Prop} (h:z.length<=szl) (q:Q (.d (.str z))):fmtR (.d (.str z)) Q:=by unfold fmtR;exact ⟨h,q⟩
theorem ak5 {i:Int} {Q:DV->Prop} (h:i.natAbs.log2 < 1920) (q:Q (.d (.str (toString i)))):fmtR (.d (.int i)) Q:=by unfold fmtR;exact ⟨h,q⟩
inductive DJ (X:Cx) (W:WX):List Expr->List TD->Prop where
  | nil:DJ X W [] []
  | cons {e:Expr} {t:TD} {es:List Expr} {ts:List TD} (h:DE X W e t) (r:DJ X W es ts):DJ X W (e::es) (t::ts)
theorem DJ.pj {es:List Expr} {ts:List TD} (h:DJ X W es ts):PJ X es (ts.map (up X.K W)):=by
  induction h with
  | nil=>exact .nil
  | cons h r ih=>exact .cons h ih
def dJs:List TD->Str->DSt->(DV->DSt->Prop)->XP->Prop
  | [],acc,sl,Q,_=>Q (.d (.str acc)) sl
  | t::ts,acc,sl,Q,E=>t sl (fun x s1=>match x with
    | .d (.str y)=>(acc++y).length<=szl/\dJs ts (acc++y) s1 Q E
    | _=>False) E
theorem amD {σ:L2.St}:∀ (ts:List TD) (acc:Str) {H:Hp} {R:VK} {G:Hp} {so:So} {sl:DSt} {Q:DV->DSt->Prop} {E:XP},Rep X.K G so σ H sl->dJs ts acc sl Q E->(∀ v H' G' dv sl',PostE X.K G so σ H sl v H' G' dv sl'->Q dv sl'->R v H')->XOk X.K W G so σ H sl E->
    tJs (ts.map (up X.K W)) acc σ H fun out H1=>R (.str out) H1
  | [],acc,H,R,G,so,sl,Q,E,rep,q,hq,_=>hq _ H G _ sl ((Post.refl rep).thenV (.dat rep.h (.str acc))) q
  | t::ts,acc,H,R,G,so,sl,Q,E,rep,q,hq,hx=>by
    refine ⟨G,so,sl,_,E,rep,q,fun x H1 G1 dx s1 p1 h1=>?_,hx⟩
    split at h1
    · rename_i y
      have w:=p1.val
      cases w
      exact ⟨y,rfl,by rw [<- aci];exact h1.1,amD ts (acc++y) p1.rep h1.2 (fun v H' G' dv sl' p2 z=>hq v H' G' dv sl' (p1.toPost.thenE p2) z) (hx.step p1.toPost)⟩
    · exact h1.elim
theorem amn {v1 v2:Expr} {rest:List Expr} {ts:List TD} (h:DJ X W (v1::v2::rest) ts):DE X W (.JoinedStr (v1::v2::rest) pos) (dJs ts Str.empty):=
  aa6 (pe_joined h.pj) fun σ H R ⟨G,so,sl,Q,E,rep,q,hq,hx⟩=>amD ts Str.empty rep q hq hx
end
section
variable {X:Cx} {W:WX} {k:Nat} {C p g:Addr} {f:Str} {fd:FuncData} {ps:List Str} {sp:SpD} {e:Expr} {te:TD} {pos:Pos}
theorem getprop {pins:List (Addr × Obj)} {σ:L2.St} {H:Hp} {s:Shared} {Q:VK} {b:Bool} {a dx:Addr} {fs:List (Str × V)} (I:Inv X pins σ H s) (ea:H a=some (.ins C dx fs)) (c:Cls X.K C) (hp:PropOf X.K C f p g) (F:FnG X.prog X.w X.K X.mg X.base k g fd ps sp) (hr:Room (k + 1) X.A) (hg:X.A.guards=some [])
    (hb:Binds X.K fd ps []) (h:upSp X.K sp [.ref a] H Q fun _ _ _=>False):wpAny (model X.prog X.w) X.A (getAttr (.ref a) f b) (EP X pins σ Q) X.xe s:=by
  obtain ⟨mA,O,_,_,_,_⟩:=ins_get I.hok ea
  obtain ⟨od,J,_⟩:=O.look
  obtain ⟨rest,hrec⟩:=hp.rec_
  have I1:=I.tok (s.toks + 1)
  have hl:[Value.ref a].length=ps.length:=by
    obtain ⟨G,so,as,QD,ED,hh,w,z,_⟩:=h
    have:=F.len _ _ _ z
    rw [<- this,<- w.length];rfl
  have hc:(PySem.W.clsIn X.K C).isSome=true:=by
    obtain ⟨cd,hc,_⟩:=PySem.W.any_some c.hd
    rw [hc];rfl
  have e:=I1.env0
  refine PySem.W.get_bind I.kIn J (PySem.W.plainGet_of (c.get f)).1 (PySem.W.findObj_data hc hp.at_ hp.get hp.tak) (PySem.W.plainGet_of (c.get f)).2 (wpAny_call (PySem.W.prop_get (s:={ s with toks:=s.toks + 1 }) I.kIn hrec ?_))
  refine codeAny_mono (F.run X.A.in1 X.stack { s with toks:=s.toks + 1 } H ⟨[.ref a],[]⟩ [.ref a] [.ref a] Q (fun _ _ _=>False) hr.in1 hg e.in1 (by
    have:=hb { s with toks:=s.toks + 1 } [.ref a] I1.kIn (by simpa using hl)
    simpa using this) (.cons rfl .nil) h) fun r s' hq=>?_
  cases r with
  | error er=>
    obtain ⟨_,_,_,_,_,_,_,_,_,_,_,_,z⟩:=hq
    exact z.elim
  | ok fl=>
    cases fl with
    | ret u=>
      obtain ⟨v,H',I3,rv,q3⟩:=I1.after hq
      show wpAny _ _ (handedOut u) _ _ _
      rw [PySem.W.handedOut_of (handed_of rv)]
      exact wpAny_pure ⟨v,H',I3,rv,q3⟩
    | next=>exact False.elim hq
    | brk=>exact False.elim hq
    | cont=>exact False.elim hq
def dProp (C:Addr) (sp:SpD) (te:TD):TD:=fun sl Q E=>te sl (fun x s1=>match pubV x with
  | .d (.ins D fs)=>D=C/\sp [.d (.ins D fs)] (fun v=>Q v s1) fun _ _=>False
  | _=>False) E
theorem ahI (he:DE X W e te) (c:Cls X.K C) (hp:PropOf X.K C f p g) (F:FnG X.prog X.w X.K X.mg X.base k g fd ps sp) (hr:Room (k + 1) X.A) (hg:X.A.guards=some []) (hb:Binds X.K fd ps [])
    (hab:attributeBase e f X.env (eval e X.env)=eval e X.env:=by rfl):DE X W (.Attribute e f pos) (dProp C sp te):=by
  refine ⟨fun pins s σ H R I ⟨G,so,sl,Q,E,rep,q,hq,hx⟩=>?_⟩
  refine attr_of hab (thn (he.run pins s σ H (fun v H1=>∃ G1 s1 fs,PostE X.K G so σ H sl v H1 G1 (.d (.ins C fs)) s1/\sp [.d (.ins C fs)] (fun v=>Q v s1) fun _ _=>False) I ⟨G,so,sl,_,E,rep,q,fun v H1 G1 dv s1 p1 z=>?_,hx⟩) fun u s1 ⟨x,H1,I1,rx,G1,sl1,fs,p1,z⟩=>?_)
  · obtain ⟨G2,p2⟩:=p1.pub
    split at z
    · rename_i D fs ed
      obtain ⟨rfl,z⟩:=z
      exact ⟨G2,s1,fs,by rw [<- ed];exact p2,z⟩
    · exact z.elim
  · obtain ⟨a,dx,vs,rfl,ea,_⟩:=VOk.inst p1.rep.h p1.val rfl
    obtain rfl:u=Value.ref a:=rx
    exact getprop I1 ea c hp F hr hg hb ⟨G1,so,_,_,_,p1.rep.h,.cons p1.val (fun _ e=>(nomatch e)) .nil,z,fun v H' G' dv pv y=>hq v H' G' dv sl1 (p1.toPost.thenE (pv.slots p1.rep)) y,fun _ _ _ _ _ _ _ y=>y⟩
end
def gAt (K:PySem.W.Frag) (C:Addr) (f:Str):Addr:=match PySem.W.recIn K (He.ma K C f) "property" with
  | some (.ref g::_)=>g
  | _=>(match PySem.W.recIn K (He.ma K C f) "staticmethod" with
    | some (.ref g::_)=>g
    | _=>0)
structure PSpec where
  cls:Str
  prop:Str
  df:He.DefD
  st:Bool:=false
structure SMet (K:PySem.W.Frag) (C:Addr) (m:Str) (p g:Addr):Prop where
  rd:PySem.W.readsIn K C (.type "type")=true
  ga:PySem.W.specialIn K (.ref C) "__getattribute__"=some (some (.builtin "type.__getattribute__"))
  at_:PySem.W.findCls K (.ref C) (.type "type") m=some (.get (.builtin "staticmethod.__get__") (.ref p) .none (.ref C))
  rc:∃ rest,PySem.W.recIn K p "staticmethod"=some (.ref g::rest)
def headS (K:PySem.W.Frag) (p g:Addr):Bool:=match PySem.W.recIn K p "staticmethod" with
  | some (.ref a::_)=>decide (a=g)
  | _=>false
def smB (K:PySem.W.Frag) (C p g:Addr) (m:Str):Bool:=PySem.W.readsIn K C (.type "type") && (decide (PySem.W.specialIn K (.ref C) "__getattribute__"=some (some (.builtin "type.__getattribute__"))) && ((match PySem.W.findCls K (.ref C) (.type "type") m with
  | some (.get (.builtin h) (.ref p') .none (.ref D))=>decide (h="staticmethod.__get__") && (decide (p'=p) && decide (D=C))
  | _=>false) && headS K p g))
theorem amK {K:PySem.W.Frag} {C p g:Addr} {m:Str} (h:smB K C p g m=true):SMet K C m p g:=by
  unfold smB at h
  obtain ⟨h1,h⟩:=He.ba h
  obtain ⟨h2,h⟩:=He.ba h
  obtain ⟨h3,h4⟩:=He.ba h
  refine ⟨h1,of_decide_eq_true h2,?_,?_⟩
  · split at h3
    · rename_i q p' D e
      obtain ⟨k1,k⟩:=He.ba h3
      obtain ⟨k2,k3⟩:=He.ba k
      rw [e,of_decide_eq_true k1,of_decide_eq_true k2,of_decide_eq_true k3]
    · cases h3
  · unfold headS at h4
    split at h4
    · rename_i a rest hr
      exact ⟨rest,by rw [hr,of_decide_eq_true h4]⟩
    · cases h4
def fnWa (K:PySem.W.Frag) (a:Addr):He.FnW:=match K.lookup a with
  | some ⟨_,_,.func fd,_⟩=>some (fd.name,fd.qualname,fd.params,fd.body,fd.scope,fd.globals,fd.closure,fd.builtins)
  | _=>none
def headed (K:PySem.W.Frag) (p g:Addr):Bool:=match PySem.W.recIn K p "property" with
  | some (.ref a::_)=>decide (a=g)
  | _=>false
def pB (K:PySem.W.Frag) (q:PSpec):Bool:=
  let C:=He.ga K q.cls
  let p:=He.ma K C q.prop
  let g:=gAt K C q.prop
  (if q.st then smB K C p g q.prop else decide (PySem.W.findIn K (.ref C) q.prop=some (some (.ref p))) && (decide (PySem.W.specialIn K (.ref p) "__get__"=some (some (.builtin "property.__get__"))) && (decide (PySem.W.takesIn K (.ref p)=some true) && headed K p g))) &&
  (PySem.W.keepIn K (.ref g) && (match K.lookup g with
    | some ⟨_,_,.func fd,_⟩=>PySem.W.codeIn K fd.code q.df.qual && (He.dflB K fd.defaults (q.df.dvs K) && He.kwdB K fd.kwdefaults (q.df.kws K))
    | _=>false))
structure POk (K:PySem.W.Frag) (q:PSpec):Prop where
  p:q.st=false->PropOf K (He.ga K q.cls) q.prop (He.ma K (He.ga K q.cls) q.prop) (gAt K (He.ga K q.cls) q.prop)
  s:q.st=true->SMet K (He.ga K q.cls) q.prop (He.ma K (He.ga K q.cls) q.prop) (gAt K (He.ga K q.cls) q.prop)
  f:∃ fd,FunD K q.df.name q.df.qual q.df.params q.df.body q.df.scope (q.df.dvs K) (q.df.kws K) (gAt K (He.ga K q.cls) q.prop) fd
theorem pB_ok {K:PySem.W.Frag} {q:PSpec} (c:pB K q=true) (e:fnWa K (gAt K (He.ga K q.cls) q.prop)=q.df.val):POk K q:=by
  unfold pB at c
  dsimp only at c
  obtain ⟨c0,c⟩:=He.ba c
  obtain ⟨c5,c6⟩:=He.ba c
  refine ⟨fun hs=>?_,fun hs=>?_,?_⟩
  · rw [hs,if_neg (by decide)] at c0
    obtain ⟨c1,c⟩:=He.ba c0
    obtain ⟨c2,c⟩:=He.ba c
    obtain ⟨c3,c4⟩:=He.ba c
    refine ⟨of_decide_eq_true c1,of_decide_eq_true c2,of_decide_eq_true c3,?_⟩
    unfold headed at c4
    split at c4
    · rename_i a rest hr
      exact ⟨rest,by rw [hr,of_decide_eq_true c4]⟩
    · cases c4
  · rw [hs,if_pos rfl] at c0
    exact amK c0
  · generalize gAt K (He.ga K q.cls) q.prop=g at *
    unfold fnWa at e
    split at c6
    · rename_i oc od fd osl lk
      rw [lk] at e
      obtain ⟨n1,n2,n3,n4,n5,n6,n7,n8,n9,n10,n11,n12,n13,n14,n15⟩:=fd
      have e2:(some (n1,n2,n3,n4,n5,n6,n7,n15):He.FnW)=some (q.df.name,q.df.qual,q.df.params,.stmts q.df.body,q.df.scope,mainGlobals,[],builtinsNs):=e
      simp only [Option.some.injEq,Prod.mk.injEq] at e2
      obtain ⟨h1,h2,h3,h4,h5,h6,h7,h8⟩:=e2
      subst h1 h2 h3 h4 h5 h6 h7 h8
      obtain ⟨k1,k2⟩:=He.ba c6
      obtain ⟨k3,k4⟩:=He.ba k2
      exact ⟨_,⟨oc,od,n8,n9,n10,n11,n12,n13,n14,osl,rfl,lk,k1,He.dflB_ok k3,He.kwdB_ok k4⟩,c5⟩
    · cases c6
structure LZ extends LY where
  ci:List Str
  pr:List PSpec
abbrev AlZ:Type:=Bool × AlY × List He.FnW
def LZ.ok (l:LZ) (K:PySem.W.Frag):Bool:=(l.ci.all fun C=>cB K (He.ga K C)) && l.pr.all (pB K)
def valZ (l:LZ) (fn:List He.DefD):AlZ:=(true,valY l.toLY fn,l.pr.map fun q=>q.df.val)
structure SaysZ (l:LZ) (fa:List He.Fa) (fn:List He.DefD) (h:Heap) (K:PySem.W.Frag):Prop extends SaysY l.toLY fa fn h K where
  ci:∀ C∈l.ci,CInst K (He.ga K C)
  pr:∀ q∈l.pr,POk K q
section
variable {prog:Program} {w:World} {A:Around} {E:Value->Shared->Prop} {s:Shared}
end
theorem alV {K:PySem.W.Frag} {f:Str} {C:Addr} {fs:List (Str × D)} {d:D} {Q:DV->Prop} (h1:Cls K C) (h2:NoAttr K C f) (h3:fs.lookup f=some d) (q:Q (.d d)):fldR K f (.d (.ins C fs)) Q:=by
  unfold fldR
  show Cls K C/\NoAttr K C f/\(match fs.lookup f with | some d=>Q (.d d) | none=>False)
  rw [h3]
  exact ⟨h1,h2,q⟩
mutual
def Pl:D->Prop
  | .lst ds=>Pls ds
  | .tup ds=>Pls ds
  | .ins _ _=>False
  | .dk _=>False
  | .dt _=>False
  | .any=>False
  | .raw _=>False
  | .kt _=>False
  | .non=>True
  | .bl _=>True
  | .int _=>True
  | .str _=>True
def Pls:List D->Prop
  | []=>True
  | d::r=>Pl d/\Pls r
end
theorem Pl.kind {d:D} (h:Pl d):kindD d=true:=by
  cases d<;>first | rfl | (unfold Pl at h;exact h.elim)
theorem Pl.tup {ds:List D} (h:Pl (.tup ds)):Pls ds:=by rw [Pl] at h;exact h
theorem Pls.hd {d:D} {r:List D} (h:Pls (d::r)):Pl d:=by rw [Pls] at h;exact h.1
theorem Pls.tl {d:D} {r:List D} (h:Pls (d::r)):Pls r:=by rw [Pls] at h;exact h.2
theorem Pls.mem:∀ {ds:List D} {d:D},Pls ds->d∈ds->Pl d
  | _::_,_,h,.head _=>h.hd
  | _::_,_,h,.tail _ m=>Pls.mem h.tl m
theorem aeR {ds:List D} (h:Pls ds):Pl (.tup ds):=by rw [Pl];exact h
theorem aeb {ds:List D} (h:Pls ds):Pl (.lst ds):=by rw [Pl];exact h
theorem abQ {i:Int}:Pl (.int i):=by simp [Pl]
theorem pl_bl {b:Bool}:Pl (.bl b):=by simp [Pl]
theorem akY {z:Str}:Pl (.str z):=by simp [Pl]
theorem ajf:Pl .non:=by simp [Pl]
theorem abP:Pls []:=by simp [Pls]
theorem aaH {d:D} {r:List D} (h:Pl d) (t:Pls r):Pls (d::r):=by rw [Pls];exact ⟨h,t⟩
theorem adJ (q:Rat):Pl (rD q):=aeR (aaH abQ (aaH abQ abP))
theorem Pl.pair {d:D} (h:Pl d):pairK d:=by
  cases d with
  | tup ds=>
    match ds,h with
    | [],_=>exact True.intro
    | [_],_=>exact True.intro
    | [a,b],h=>exact ⟨h.tup.hd.kind,h.tup.tl.hd.kind⟩
    | _::_::_::_,_=>exact True.intro
  | kt _=>rw [Pl] at h;exact h.elim
  | _=>exact True.intro
def itemsD:D->Option (List D)
  | .lst ds=>some ds
  | .tup ds=>some ds
  | _=>none
theorem aia (d:D) (h:Pl d):isBs ["list","tuple"] d=(itemsD d).isSome:=by
  cases d with
  | kt _=>rw [Pl] at h;exact h.elim
  | _=>rfl
theorem ago {n d:Int} (h:0 < d) (hb:d.natAbs < 2 ^ 8000):CDivW n (gcI n d):=by
  have g:=ajL (n:=n) h
  refine ⟨g,?_⟩
  have l:gcI n d<=d:=Int.le_of_dvd h (Int.gcd_dvd_right n d)
  have:(gcI n d).natAbs < 2 ^ 8000:=Nat.lt_of_le_of_lt (by omega) hb
  exact Nat.lt_of_lt_of_le (PySem.Flt.log2_lt_of (by decide) this) (by decide)
theorem ait {x:D} (k2:pairK x) (h:ratOf x=none):wholeD x=false/\ratioD x=false:=by
  unfold ratOf at h
  split at h
  · cases h
  · rename_i a b
    split at h
    · cases h
    · rename_i z
      refine ⟨rfl,?_⟩
      show (decide (1<=b) && decide (gcI a b=1))=false
      rw [Bool.and_eq_false_iff]
      by_cases q:1<=b
      · exact .inr (decide_eq_false fun y=>z ⟨q,y⟩)
      · exact .inl (decide_eq_false q)
  · rename_i z1 z2
    refine ⟨?_,?_⟩
    · cases x<;>first | rfl | exact absurd rfl (z1 _)
    · cases x with
      | tup ds=>
        match ds with
        | []=>rfl
        | [_]=>exact adI (by simp)
        | _::_::_::_=>exact adI (by simp)
        | [a,b]=>cases a<;>cases b<;>first | rfl | exact absurd rfl (z2 _ _)
      | _=>rfl
theorem ratOf_some {x:D} {q:Rat} (h:ratOf x=some q):(∃ i:Int,x=.int i/\rD q=rt i 1)\/(wholeD x=false/\ratioD x=true/\x=rD q):=by
  unfold ratOf at h
  split at h
  · rename_i i
    cases h
    exact .inl ⟨i,rfl,rfl⟩
  · rename_i a b
    split at h
    · rename_i z
      cases h
      refine .inr ⟨rfl,?_,(amP z.1 z.2).symm⟩
      show (decide (1<=b) && decide (gcI a b=1))=true
      rw [decide_eq_true z.1,decide_eq_true z.2];rfl
    · cases h
  · cases h
theorem afD {n m:Int}:ratOf (.tup [.int n,.int m])=if 1<=m/\gcI n m=1 then some (Rat.divInt n m) else none:=rfl
end DL
namespace DL
section
variable {te:TD} {t u:TDS} {E:EndsD} {sl s':DSt} {i:Nat}
theorem akc (R:List D->Prop) (h:∀ Q:DV->DSt->Prop,(∀ ds,R ds->Q (.own (.lst ds)) s')->te sl Q E.xc) (q:∀ ds,R ds->u E (s'.set i (some (.own (.lst ds))))):dSeq (dSet te i) u E sl:=h _ q
theorem akL (h:∀ Q:DV->DSt->Prop,Q (.d (.bl true)) s'->te sl Q E.xc) (q:u E s'):dSeq (dIf (dNot (dTru te)) t dNext) u E sl:=h _ (aa7 (brF q))
theorem akK (h:∀ Q:DV->DSt->Prop,Q (.d (.bl true)) s'->te sl Q E.xc) (q:E.nx s'):dIf (dNot (dTru te)) t dNext E sl:=h _ (aa7 (brF q))
end
theorem acz {α:Type} (x:α):∀ n:Nat,(List.replicate n [x]).flatten=List.replicate n x
  | 0=>rfl
  | n + 1=>by rw [List.replicate_succ,List.flatten_cons,acz x n,List.replicate_succ];rfl
end DL
namespace DL
open PySem PySem.Spec PyProof.Rows L2
section
variable {X:Cx} {W:WX} {e:Expr} {es:List Expr} {ta te:TD} {tr tk:TDA} {p pos kpos:Pos} {kws:List Keyword} {nm:Option Str}
end
section
variable {X:Cx} {W:WX} {e:Expr} {te:TD} {tk:TDA} {kpos:Pos} {kws:List Keyword} {nm:Str}
end
def Lent (x:DV):Prop:=(∃ d,x=.d d)\/∃ ds,x=.bor (.lst ds)
theorem ame {P:Program} {w:World} {K:PySem.W.Frag} {mg:Str->Option Value} {base:Heap} {n qual:Str} {params:Arguments} {body:List Stmt} {scope:Scope} {dvs:List V} {kws:List (Str × V)} {f C:Addr} {fd:FuncData} {N ps:List Str} {k:Nat} {sp:SpI} {t:TDS}
    (F:FunD K n qual params body scope dvs kws f fd) (S:FnScope N ps scope) (len:∀ args Q E,sp args Q E->args.length + 1=ps.length) (nsee:∀ args Q E,sp args Q E->∀ x∈args,Lent x)
    (hd:∀ (cdv:Value) (A:Around) (outer:List Env) (s:Shared) (H:Hp) (E:XK),Room k (A.deeper (envOfC qual scope s.heap.objs.size f cdv))->(cxOf (L2N.CX P w) P w K mg base N qual scope f cdv A outer s H E).A.guards=some []->
      DSs (cxOf (L2N.CX P w) P w K mg base N qual scope f cdv A outer s H E) (fun cls d _ H'=>E cls d H') body t)
    (hr:∀ args Q E x,sp args Q E->t { nx:=endI x C Q,rt:=fun _ _=>False,bk:=fun _=>False,ct:=fun _=>False,xc:=fun cls fs _=>E cls fs } (startD N (.own (.ins x C [])::args))):FnR P w K mg base (k + 1) f fd ps (upIn K C sp):=by
  refine ajN F S (fun vs H Q E h=>?_) (fun cdv A outer s H vs Q E hroom hg h=>?_)
  · obtain ⟨x,vs',G,so,args,QD,ED,rfl,_,_,_,_,w1,q,_⟩:=h
    rw [List.length_cons,w1.length];exact len _ _ _ q
  · obtain ⟨x,vs',G,so,args,QD,ED,rfl,hrep,ow,gx,sx,w1,q,hq,hx⟩:=h
    have only:∀ a,Own (startD N (.own (.ins x C [])::args)) (L2.start N (.ref x::vs')) a->a=x:=fun a ⟨i,o,e1,e2⟩=>by
      rcases start_get0 e1 with ⟨rfl,_⟩ | ⟨j,rfl,z⟩
      · have:(L2.start N (.ref x::vs'))[0]?=some (some (.ref x)):=aeo rfl
        rw [this] at e2;cases e2;rfl
      · obtain ⟨_,_,_,n⟩:=w1.get z
        exact absurd rfl (n o)
    have rep:Rep K G so (L2.start N (.ref x::vs')) H (startD N (.own (.ins x C [])::args)):=by
      refine ⟨hrep,by unfold startD L2.start;simp [w1.length],fun i d e=>?_,fun i j o o' a e1 e2 _ _=>?_,fun i o a e1 e2=>?_,fun i o e1=>?_⟩
      · rcases start_get0 e with ⟨rfl,rfl⟩ | ⟨j,rfl,z⟩
        · exact ⟨.ref x,aeo rfl,x,rfl,gx,sx,ow⟩
        · obtain ⟨v,e1,e2,_⟩:=w1.get z
          exact ⟨v,aeo (by simpa using e1),VOk.slot e2⟩
      · rcases start_get0 e1 with ⟨rfl,_⟩ | ⟨j',rfl,z⟩
        · rcases start_get0 e2 with ⟨rfl,_⟩ | ⟨j',rfl,z⟩
          · rfl
          · obtain ⟨_,_,_,n⟩:=w1.get z
            exact absurd rfl (n o')
        · obtain ⟨_,_,_,n⟩:=w1.get z
          exact absurd rfl (n o)
      · rcases start_get0 e1 with ⟨_,z⟩ | ⟨j',rfl,z⟩
        · cases z
        · intro oo
          have ax:=only a oo
          subst ax
          rcases nsee _ _ _ q _ (List.mem_of_getElem? z) with ⟨d,y⟩ | ⟨ds,y⟩
          · cases y
          · cases y
            obtain ⟨v,g1,g2,_⟩:=w1.get z
            obtain ⟨b,rfl,_,vs1,g3,_⟩:=g2
            have:(L2.start N (.ref a::vs'))[j' + 1]?=some (some (.ref b)):=aeo (by simpa using g1)
            rw [this] at e2
            cases e2
            obtain ⟨_,dx,vs2,g4,_⟩:=ow
            rw [g3] at g4;cases g4
      · rcases start_get0 e1 with ⟨_,z⟩ | ⟨j',rfl,z⟩
        · cases z
        · rcases nsee _ _ _ q _ (List.mem_of_getElem? z) with ⟨d,y⟩ | ⟨ds,y⟩<;>cases y
    refine ⟨_,hd cdv A outer s H E hroom hg,G,so,_,_,rep,hr args QD ED x q,⟨fun σ' H' G' sl' p z=>?_,fun _ _ _ _ _ z=>z.elim,fun _ _ _ _ _ z=>z.elim,fun _ _ _ _ _ _ z=>z.elim,fun cls d σ' H' G' fs sl' p z1 z2=>?_⟩⟩
    · obtain ⟨fs,e,z⟩:=z
      obtain ⟨v,_,a,rfl,ga,_,ok⟩:=p.rep.slots 0 _ e
      have ax:a=x:=ok.1
      subst ax
      exact hq H' G' fs ⟨⟨p.ex,p.rep.h,fun b o e s n=>p.keep b o e s fun z=>n (only b z),fun b n1 g s n=>p.frm b n1 g s fun z=>n (only b z)⟩,ok,ga⟩ z
    · exact hx cls d H' G' fs ⟨p.ex,p.rep.h,fun b o e s n=>p.keep b o e s fun z=>n (only b z),fun b n1 g s n=>p.frm b n1 g s fun z=>n (only b z)⟩ z1 z2
section
variable {K:PySem.W.Frag} {G G2:Hp} {so:So} {σ:L2.St} {H H2:Hp} {sl s2:DSt} {a:Addr} {u:HO}
end
section
variable {X:Cx} {W:WX} {o value:Expr} {to te:TD} {pos pos':Pos}
end
def keepR:DV->Prop
  | .see _=>False
  | .bor _=>False
  | _=>True
section
variable {X:Cx} {W:WX} {a b:Expr} {ta tb:TD} {i j:Nat} {x y:Str} {pos:Pos}
end
section
variable {X:Cx} {k:Nat} {f C:Addr} {fd:FuncData} {ps:List Str} {sp:SpD}
end
inductive Fa2 {α β:Type} (R:α->β->Prop):List α->List β->Prop
  | nil:Fa2 R [] []
  | cons {x:α} {y:β} {xs:List α} {ys:List β} (h:R x y) (t:Fa2 R xs ys):Fa2 R (x::xs) (y::ys)
section
variable {α β γ:Type} {R:α->β->Prop} {xs:List α} {ys:List β}
theorem Fa2.mono {S:α->β->Prop} (h:Fa2 R xs ys) (k:∀ x y,R x y->S x y):Fa2 S xs ys:=by
  induction h with
  | nil=>exact .nil
  | cons h _ ih=>exact .cons (k _ _ h) ih
end
section
variable {g:TDG} {tt:TDT} {te:TD} {vs:List Nat} {Q:DV->DSt->Prop}
end
theorem ac5 (x:Str):Str.empty++x=x:=by
  show (⟨#[]++x.cps⟩:Str)=x
  rw [Array.empty_append]
theorem ad1 {b:Nat} {i:Int} (h:i.natAbs < 10 ^ b) (hb:0 < b:=by decide) (h2:b<=500:=by decide):(toString i:Str).length<=b + 1:=(Shw.intN hb h2 h).ln
theorem aak (x y:Str):(x++y).length=x.length + y.length:=by
  show (x.cps++y.cps).size=x.cps.size + y.cps.size
  rw [Array.size_append]
theorem lg20 {i:Int} (h:i.natAbs < 10 ^ 20):i.natAbs.log2 < 1920:=
  PySem.Flt.log2_lt_of (by decide) (Nat.lt_of_lt_of_le h (Nat.le_trans (by decide:10 ^ 20<=2 ^ 100) (Nat.pow_le_pow_right (by decide) (by decide))))
def pubSl (i:Nat) (sl:DSt):DSt:=match sl[i]? with
  | some (some (.own o))=>sl.set i (some (.d (pubO o)))
  | _=>sl
def dPub (i:Nat) (t:TDS):TDS:=fun E sl=>t E (pubSl i sl)
theorem Rep.pubS {K:PySem.W.Frag} {G:Hp} {so:So} {σ:L2.St} {H:Hp} {sl:DSt} (i:Nat) (rep:Rep K G so σ H sl):∃ G',Post K G so σ H sl H G' (pubSl i sl):=by
  unfold pubSl
  split
  · rename_i o e
    obtain ⟨v,e1,w⟩:=rep.slots i _ e
    obtain ⟨a,qa,g,s,ok⟩:=w
    subst qa
    obtain ⟨u,eu,dk⟩:=ajk ok g
    have others:∀ b,Own (sl.set i (some (.d (pubO o)))) σ b->Own sl σ b/\b≠a:=fun b z=>by
      rcases own_set z with ⟨k1,k2⟩ | ⟨k1,j,ne,o',k2,k3⟩
      · exact ⟨k1,fun z=>k2 (z ▸ e1)⟩
      · exact ⟨k1,fun z=>ne (rep.sep j i o' o a k2 e (z ▸ k3) e1)⟩
    refine ⟨upd G a u,{ ex:=Ex.new g,rep:=⟨aes rep.h eu g s,by rw [List.length_set];exact rep.len,fun j d ej=>?_,fun j k o1 o2 b e1' e2' e3 e4=>?_,fun j o1 b e1' e2' z=>?_,fun j o1 z=>?_⟩,keep:=fun _ _ z _=>z,frm:=fun b n1 g1 s1 w=>?_,sub:=fun b z=>(others b z).1,bsub:=fun j o1 z=>?_ }⟩
    · by_cases ji:j=i
      · subst ji
        rw [List.getElem?_set] at ej
        split at ej
        · split at ej
          · cases ej;exact ⟨_,e1,dk⟩
          · cases ej
        · rename_i k;exact absurd rfl k
      · rw [List.getElem?_set_ne (Ne.symm ji)] at ej
        obtain ⟨w',f1,f2⟩:=rep.slots j d ej
        refine ⟨w',f1,SlOk.keep f2 (by first | exact rep.h.ok | exact q.rep.h.ok) (Ex.new g) (fun _ _ z _=>z) fun b o' ed qb=>?_⟩
        subst ed;subst qb
        have z:b≠a:=fun z=>ji (rep.sep j i o' o a ej e (z ▸ f1) e1)
        rw [upd_ne z];exact (rep.nown ⟨j,o',ej,f1⟩).2.1
    · have f:∀ (m:Nat) (o3:OO),(sl.set i (some (.d (pubO o))))[m]?=some (some (.own o3))->sl[m]?=some (some (.own o3)):=fun m o3 em=>by
        rcases get_set em with ⟨_,z⟩ | ⟨_,z⟩
        · cases z
        · exact z
      exact rep.sep j k o1 o2 b (f _ _ e1') (f _ _ e2') e3 e4
    · rcases get_set e1' with ⟨_,y⟩ | ⟨ne,y⟩
      · cases y
      · exact rep.bor j o1 b y e2' (others b z).1
    · rcases get_set z with ⟨_,y⟩ | ⟨ne,y⟩
      · cases y
      · exact rep.nse j o1 y
    · have z:b≠a:=fun z=>w ⟨i,o,e,z ▸ e1⟩
      rw [upd_ne z];exact g1
    · rcases get_set z with ⟨_,y⟩ | ⟨ne,y⟩
      · cases y
      · exact ⟨o1,y⟩
  · exact ⟨G,.refl rep⟩
theorem ank {X:Cx} {W:WX} {st:Stmt} {t:TDS} {i:Nat} (h:DS X W st t):DS X W st (dPub i t):=ac8 h fun D σ H ⟨G,so,sl,E,rep,q,ok⟩=>by
  obtain ⟨G',p⟩:=rep.pubS i
  exact ⟨G',so,_,E,p.rep,q,ok.step p.s⟩
structure Sm (b d w:Nat) (x:D):Prop where
  f:Fine b x
  d:dep x<=d
  w:wt b x<=w
structure Sms (b d w:Nat) (xs:List D):Prop where
  f:Fines b xs
  d:deps xs<=d
  w:wts b xs<=w
section
variable {b d w d' w' m:Nat} {x:D} {xs ys:List D}
theorem Sm.mono (h:Sm b d w x) (h1:d<=d') (h2:w<=w'):Sm b d' w' x:=⟨h.f,Nat.le_trans h.d h1,Nat.le_trans h.w h2⟩
theorem Sms.mono (h:Sms b d w xs) (h1:d<=d') (h2:w<=w'):Sms b d' w' xs:=⟨h.f,Nat.le_trans h.d h1,Nat.le_trans h.w h2⟩
theorem ach:Sms b 0 0 []:=⟨by simp [Fines],by simp [deps],by simp [wts]⟩
theorem aal (h:Sm b d w x) (t:Sms b d' w' xs):Sms b (max d d') (w + 2 + w') (x::xs):=⟨fcons h.f t.f,by rw [deps];have:=h.d;have:=t.d;omega,by rw [wts];have:=h.w;have:=t.w;omega⟩
theorem aeK (h:Sms b d w xs):Sm b (d + 1) (w + 3) (.tup xs):=⟨ftup h.f,by rw [dep];have:=h.d;omega,by rw [wt];have:=h.w;omega⟩
theorem amJ {i:Int} (h:i.natAbs < 10 ^ b):Sm b 0 (b + 1) (.int i):=⟨fint h,Nat.le_refl _,by rw [wt];omega⟩
theorem amI {z:Str} (h:∀ c∈z.cps.toList,c < 0x110000) (hl:z.length<=m):Sm b 0 (10 * m + 2) (.str z):=⟨fstr h,Nat.le_refl _,by rw [wt];omega⟩
theorem agS {Q:DV->Prop} {E:XE'} {ds es:List D} (he:ds=es) (h:Sms b d w es) (q:Q (.d (.bl true))) (h1:d<=60:=by decide) (h2:w<=16000000:=by decide) (hb:0 < b:=by decide) (hb2:b<=500:=by decide):spSame [.d (.lst ds),.d (.lst es)] Q E:=akg b he h.f q (Nat.le_trans h.d h1) (Nat.le_trans h.w h2) hb hb2
theorem aeO {Q:DV->Prop} {E:XE'} {ds es:List D} (he:ds=es) (h:Sms b d w es) (q:Q (.d (.bl true))) (h1:d<=60:=by decide) (h2:w<=16000000:=by decide) (hb:0 < b:=by decide) (hb2:b<=500:=by decide):spSame [.d (.tup ds),.d (.tup es)] Q E:=akf b he h.f q (Nat.le_trans h.d h1) (Nat.le_trans h.w h2) hb hb2
end
def okS (z:Str):Prop:=∀ c∈z.cps.toList,c < 0x110000
theorem acZ (s:String):okS (Str.ofString s):=by
  intro c hc
  rw [Str.ofString_eq_toList] at hc
  have hc':c∈s.toList.map Char.toNat:=hc
  obtain ⟨ch,_,rfl⟩:=List.mem_map.mp hc'
  have:=ch.valid
  have h2:ch.toNat.isValidChar:=this
  rcases h2 with h2 | h2<;>omega
theorem alO {args:List DV} (h:∀ x∈args,Lent x\/x=.src) (i:Nat) (o:OO):args[i]?≠some (.see o):=fun e=>by
  rcases h _ (List.mem_of_getElem? e) with (⟨d,y⟩ | ⟨ds,y⟩) | y<;>cases y
theorem amf {K:PySem.W.Frag} {te:TD} {u:TDS} {E:EndsD} {sl s':DSt} {i:Nat} {f:Str} {x C:Addr} {fs:List (Str × D)} (d:D) (c:Cls K C) (n:NoAttr K C f) (h:∀ Q:DV->DSt->Prop,(∀ v,pubV v=.d d->Q v s')->te sl Q E.xc) (q:u E (s'.set i (some (.own (.ins x C (putD f d fs)))))) (hl:fs.length < 1000:=by exact Nat.le_of_ble_eq_true rfl) (e:s'[i]?=some (some (.own (.ins x C fs))):=by rfl):dSeq (dFldSet K te i f) u E sl:=by
  refine h _ fun v pv=>?_
  show (match s'[i]?,pubV v with
    | some (some (.own (.ins x C fs))),.d d=>Cls K C/\NoAttr K C f/\fs.length < 1000/\u E (s'.set i (some (.own (.ins x C (putD f d fs)))))
    | _,_=>False)
  rw [e,pv]
  exact ⟨c,n,hl,q⟩
def valD {κ:Type} [DecidableEq κ] (kvs:List (κ × D)) (k:κ):Option D:=(kvs.find? fun kv=>decide (kv.1=k)).map (·.2)
def keyOf:D->Option Key
  | .int i=>some (.inl i)
  | .str z=>some (.inr z)
  | _=>none
theorem afX {κ:Type} [DecidableEq κ] {p:κ × D} {r:List (κ × D)} {k:κ} (e:p.1=k):valD (p::r) k=some p.2:=by simp [valD,List.find?_cons,e]
theorem afY {κ:Type} [DecidableEq κ] {p:κ × D} {r:List (κ × D)} {k:κ} (e:¬ p.1=k):valD (p::r) k=valD r k:=by simp [valD,List.find?_cons,e]
section
variable {K:PySem.W.Frag} {G H:Hp} {so:So} {v:V} {dv:DV}
theorem FAll.valS {κ:Type} [DecidableEq κ] {k:κ}:∀ {vs:List (κ × V)} {kvs:List (κ × D)} {d:D},FAll K G vs kvs->valD kvs k=some d->∃ v,valV vs k=some v/\DOk K G v d
  | _,_,_,.nil,e=>by cases e
  | _,_,d,.cons (x:=x) h t,e=>by
    by_cases z:x=k
    · rw [afX z] at e;cases e;exact ⟨_,valV_pos z,h⟩
    · rw [afY z] at e
      obtain ⟨v,e1,e2⟩:=FAll.valS t e
      exact ⟨v,by rw [valV_neg z];exact e1,e2⟩
theorem FAll.keys {κ:Type}:∀ {vs:List (κ × V)} {kvs:List (κ × D)},FAll K G vs kvs->vs.map (·.1)=kvs.map (·.1)
  | _,_,.nil=>rfl
  | _,_,.cons _ t=>by rw [List.map_cons,List.map_cons,FAll.keys t]
theorem FAll.len {κ:Type} {vs:List (κ × V)} {kvs:List (κ × D)} (h:FAll K G vs kvs):vs.length=kvs.length:=by
  have:=congrArg List.length h.keys
  simpa using this
theorem ak7 {d:D} {k:Key} (w:DOk K G v d) (e:keyOf d=some k):v=kV k:=by
  cases w<;>cases e<;>rfl
theorem al6 (k:Key):DOk K G (kV k) (keyD k):=by
  cases k with
  | inl i=>exact .int i
  | inr z=>exact .str z
def DV.dkv:DV->Option (List (Key × D))
  | .d (.dk k)=>some k
  | .own (.dk k)=>some k
  | .bor (.dk k)=>some k
  | .see (.dk k)=>some k
  | _=>none
theorem VOk.dkr {kvs:List (Key × D)} (h:HRep K G so H) (w:VOk K G so H v dv) (e:dv.dkv=some kvs):∃ a vs,v=.ref a/\Rd H a (.dK vs)/\FAll K G vs kvs:=by
  unfold DV.dkv at e
  split at e
  · cases e
    cases w with
    | dk g f=>exact ⟨_,_,rfl,.inr ⟨_,h.ex _ _ g⟩,f⟩
  · cases e;obtain ⟨a,rfl,_,_,vs,q,r⟩:=w;exact ⟨a,vs,rfl,.inl q,r⟩
  · cases e;obtain ⟨a,rfl,_,o,vs,q,r⟩:=w;exact ⟨a,vs,rfl,.inr ⟨o,q⟩,r⟩
  · cases e;obtain ⟨a,rfl,_,vs,q,r⟩:=w;exact ⟨a,vs,rfl,.inl q,r⟩
  · cases e
end
@[irreducible] def dgetR (x y:DV) (Q:DV->Prop):Prop:=match x.dkv,y with
  | some kvs,.d k=>(match keyOf k with
    | some key=>(match valD kvs key with
      | some d=>Q (.d d)
      | none=>False)
    | none=>False)
  | _,_=>False
section
variable {X:Cx} {W:WX} {a b:Expr} {ta tb:TD} {pos:Pos}
theorem ae8 (hu:X.A.units + 64 < cLine) (ha:DE X W a ta) (hb:DE X W b tb) (hs:NoSl b:=by exact fun _ _=>rfl):DE X W (.Subscript a b pos) (dOp dgetR ta tb):=by
  refine aa6 (pe_dget (by omega) ha hb hs) fun σ H R ⟨G,so,sl,Q,E,rep,q,hq,hx⟩=>?_
  refine ⟨G,so,sl,_,E,rep,q,fun x H1 G1 dx s1 p1 h1=>?_,hx⟩
  refine ⟨G1,so,s1,_,E,p1.rep,h1,fun y H2 G2 dy s2 p2 h2=>?_,hx.step p1.toPost⟩
  unfold dgetR at h2
  split at h2
  · rename_i kvs k e
    split at h2
    · rename_i key ek
      split at h2
      · rename_i d ed
        obtain ⟨c,vs,rfl,rd,fa⟩:=VOk.dkr p2.rep.h (p1.over p2.toPost) e
        obtain ⟨v,e1,e2⟩:=fa.valS ed
        have ey:=ak7 (show DOk X.K G2 y k from p2.val) ek
        exact ⟨c,v,rfl,.inl ⟨vs,key,rd,ey,e1.symm⟩,hq v H2 G2 _ s2 ((p1.toPost.trans p2.toPost).thenV (.dat p2.rep.h e2)) h2⟩
      · exact h2.elim
    · exact h2.elim
  · exact h2.elim
theorem aiJ {X:Cx}:CallR X (.builtin "len") (fun xs H Q=>∃ a kvs,xs=[V.ref a]/\Rd H a (.dK kvs)/\Q (.int kvs.length) H):=by
  intro pins s σ H xs us Q I r h
  obtain ⟨a,kvs,rfl,rd,q⟩:=h
  obtain rfl:=Vals.ref1 r
  exact d_len I rd fun t s' I'=>⟨.int _,H,I',⟨t,rfl⟩,q⟩
end
section
variable {K:PySem.W.Frag}
@[irreducible] def lenDR:List DV->(DV->Prop)->Prop
  | [v],Q=>(match v.dkv with
    | some kvs=>Q (.d (.int kvs.length))
    | none=>False)
  | _,_=>False
theorem aiV:CallSem K (fun xs H Q=>∃ a kvs,xs=[V.ref a]/\Rd H a (.dK kvs)/\Q (.int kvs.length) H) lenDR:=by
  intro G so H xs dxs Q R h w q k
  unfold lenDR at q
  split at q
  · obtain ⟨v,rfl,w1,_⟩:=w.v1
    split at q
    · rename_i kvs e
      obtain ⟨c,vs,rfl,rd,fa⟩:=VOk.dkr h w1 e
      refine ⟨c,vs,rfl,rd,k _ H G _ (.dat h (.int _)) ?_⟩
      rw [fa.len];exact q
    · exact q.elim
  · exact q.elim
theorem DAll.strs {G:Hp}:∀ (ys:List Str),DAll K G (ys.map V.str) (ys.map D.str)
  | []=>.nil
  | y::r=>.cons (.str y) (DAll.strs r)
@[irreducible] def sortDR:List DV->(DV->Prop)->Prop
  | [v],Q=>(match v.dkv with
    | some kvs=>∃ ks:List Str,kvs.map (·.1)=ks.map Sum.inr/\ks.length < 64/\∀ ys:List Str,ys.Perm ks->sortedS ys=true->Q (.own (.lst (ys.map .str)))
    | none=>False)
  | _,_=>False
theorem aeL:CallSem K (fun xs H Q=>∃ (a:Addr) (kvs:List (Key × V)) (ks:List Str),xs=[.ref a]/\Rd H a (.dK kvs)/\kvs.map (·.1)=ks.map Sum.inr/\ks.length < 64/\
    ∀ ys p,ys.Perm ks->sortedS ys=true->H p=none->Q (.ref p) (upd H p (.lst (ys.map V.str)))) sortDR:=by
  intro G so H xs dxs Q R h w q k
  unfold sortDR at q
  split at q
  · obtain ⟨v,rfl,w1,_⟩:=w.v1
    split at q
    · rename_i kvs e
      obtain ⟨c,vs,rfl,rd,fa⟩:=VOk.dkr h w1 e
      obtain ⟨ks,e1,e2,q⟩:=q
      exact ⟨c,vs,ks,rfl,rd,by rw [fa.keys];exact e1,e2,fun ys p hp hs n=>k _ _ G _ (.list h n (DAll.strs ys)) (q ys hp hs)⟩
    · exact q.elim
  · exact q.elim
@[irreducible] def anyR:List DV->(DV->Prop)->Prop
  | [v],Q=>(match v.items with
    | some ds=>(match bools ds with
      | some bs=>Q (.d (.bl (bs.any id)))
      | none=>False)
    | none=>False)
  | _,_=>False
theorem alu:CallSem K (rAny K) anyR:=by
  intro G so H xs dxs Q R h w q k
  unfold anyR at q
  split at q
  · obtain ⟨v,rfl,w1,_⟩:=w.v1
    split at q
    · rename_i e
      obtain ⟨a,vs,rfl,g1,a1⟩:=VOk.list h w1 e
      split at q
      · rename_i bs eb
        exact ⟨a,bs,rfl,by rw [<- agx a1 eb];exact SqL.of g1,k _ H G _ (.dat h (.bl _)) q⟩
      · exact q.elim
    · exact q.elim
  · exact q.elim
def isNonD:D->Option Bool
  | .non=>some true
  | .any=>none
  | .raw _=>none
  | _=>some false
@[irreducible] def isNR (neg:Bool):DV->DV->(DV->Prop)->Prop
  | x,.d .non,Q=>(match x.dat with
    | some d=>(match isNonD d with
      | some b=>Q (.d (.bl (if neg then !b else b)))
      | none=>False)
    | none=>False)
  | _,_,_=>False
theorem ak9 {G H:Hp} {so:So} {v:V} {dv:DV} {d:D} {b:Bool} (w:VOk K G so H v dv) (e:dv.dat=some d) (q:isNonD d=some b):decide (v=.non)=b:=by
  have ow:∀ {o:OO},isNonD (pubO o)=some b->b=false:=fun {o} z=>by cases o<;>cases z<;>rfl
  cases dv with
  | src=>cases e
  | mu _ _ _=>cases e
  | gh _ _=>cases e
  | own o=>cases e;obtain ⟨a,rfl,_⟩:=w;rw [ow q];rfl
  | bor o=>cases e;obtain ⟨a,rfl,_⟩:=w;rw [ow q];rfl
  | see o=>cases e;obtain ⟨a,rfl,_⟩:=w;rw [ow q];rfl
  | d x=>
    cases e
    cases w<;>cases q<;>rfl
theorem aiW:OpSem K (fun x y H Q=>y=.non/\Q (.bl (decide (x=.non))) H) (isNR false):=by
  intro G so H x y dx dy Q R h wx wy q k
  unfold isNR at q
  split at q
  · cases wy
    split at q
    · rename_i d e
      split at q
      · rename_i b eb
        refine ⟨rfl,?_⟩
        rw [ak9 wx e eb]
        exact k _ H G _ (.dat h (.bl _)) q
      · exact q.elim
    · exact q.elim
  · exact q.elim
end
section
variable {K:PySem.W.Frag}
theorem aeq:OpSem K (fun x y H Q=>y=.non/\Q (.bl (!decide (x=.non))) H) (isNR true):=by
  intro G so H x y dx dy Q R h wx wy q k
  unfold isNR at q
  split at q
  · cases wy
    split at q
    · rename_i d e
      split at q
      · rename_i b eb
        refine ⟨rfl,?_⟩
        rw [ak9 wx e eb]
        exact k _ H G _ (.dat h (.bl _)) q
      · exact q.elim
    · exact q.elim
  · exact q.elim
theorem ae3 {n b:Bool} {x:DV} {d:D} {Q:DV->Prop} (e:x.dat=some d) (h:isNonD d=some b) (q:Q (.d (.bl (if n then !b else b)))):isNR n x (.d .non) Q:=by
  unfold isNR
  dsimp only
  rw [e]
  dsimp only
  rw [h];exact q
theorem afK {x:DV} {kvs:List (Key × D)} {k:D} {key:Key} {d:D} {Q:DV->Prop} (h1:x.dkv=some kvs) (h2:keyOf k=some key) (h3:valD kvs key=some d) (q:Q (.d d)):dgetR x (.d k) Q:=by
  unfold dgetR
  rw [h1]
  dsimp only
  rw [h2]
  dsimp only
  rw [h3];exact q
theorem alX {x:DV} {kvs:List (Key × D)} {Q:DV->Prop} (h1:x.dkv=some kvs) (q:Q (.d (.int kvs.length))):lenDR [x] Q:=by
  unfold lenDR
  dsimp only
  rw [h1];exact q
theorem ahz {x:DV} {kvs:List (Key × D)} {ks:List Str} {Q:DV->Prop} (h1:x.dkv=some kvs) (h2:kvs.map (·.1)=ks.map Sum.inr) (h3:ks.length < 64) (q:∀ ys:List Str,ys.Perm ks->sortedS ys=true->Q (.own (.lst (ys.map .str)))):sortDR [x] Q:=by
  unfold sortDR
  dsimp only
  rw [h1];exact ⟨ks,h2,h3,q⟩
theorem l_any {v:DV} {ds:List D} {bs:List Bool} {Q:DV->Prop} (hv:v.items=some ds) (hb:bools ds=some bs) (q:Q (.d (.bl (bs.any id)))):anyR [v] Q:=by
  unfold anyR
  dsimp only
  rw [hv]
  dsimp only
  rw [hb];exact q
end
def putKD {κ:Type} [DecidableEq κ] (kvs:List (κ × D)) (k:κ) (d:D):List (κ × D):=if (kvs.any fun kv=>decide (kv.1=k))=true then kvs.map fun kv=>if kv.1=k then (kv.1,d) else kv else kvs++[(k,d)]
section
variable {K:PySem.W.Frag} {G:Hp}
theorem FAll.any_eq {κ:Type} [DecidableEq κ] (k:κ):∀ {vs:List (κ × V)} {kvs:List (κ × D)},FAll K G vs kvs->(vs.any fun kv=>decide (kv.1=k))=kvs.any fun kv=>decide (kv.1=k)
  | _,_,.nil=>rfl
  | _,_,.cons _ t=>by rw [List.any_cons,List.any_cons,FAll.any_eq k t]
theorem FAll.app {κ:Type}:∀ {vs ws:List (κ × V)} {kvs mvs:List (κ × D)},FAll K G vs kvs->FAll K G ws mvs->FAll K G (vs++ws) (kvs++mvs)
  | _,_,_,_,.nil,h=>h
  | _,_,_,_,.cons a t,h=>.cons a (FAll.app t h)
theorem FAll.repl {κ:Type} [DecidableEq κ] {k:κ} {v:V} {d:D} (w:DOk K G v d):∀ {vs:List (κ × V)} {kvs:List (κ × D)},FAll K G vs kvs->FAll K G (vs.map fun kv=>if kv.1=k then (kv.1,v) else kv) (kvs.map fun kv=>if kv.1=k then (kv.1,d) else kv)
  | _,_,.nil=>.nil
  | _,_,.cons (x:=x) h t=>by
    rw [List.map_cons,List.map_cons]
    by_cases z:x=k
    · rw [if_pos z,if_pos z];exact .cons w (FAll.repl w t)
    · rw [if_neg z,if_neg z];exact .cons h (FAll.repl w t)
theorem FAll.putK {κ:Type} [DecidableEq κ] {k:κ} {v:V} {d:D} {vs:List (κ × V)} {kvs:List (κ × D)} (h:FAll K G vs kvs) (w:DOk K G v d):FAll K G (L2.putK vs k v) (putKD kvs k d):=by
  unfold L2.putK putKD
  rw [h.any_eq k]
  split
  · exact h.repl w
  · exact h.app (.cons w .nil)
end
def dDNew:TD:=fun sl Q _=>Q (.own (.dk [])) sl
section
variable {X:Cx} {W:WX} {pos pos':Pos} {o k value:Expr} {te tk:TD} {i:Nat}
theorem PostV.dct {K:PySem.W.Frag} {G H:Hp} {so:So} {p:Addr} {vs:List (Key × V)} {kvs:List (Key × D)} (h:HRep K G so H) (n:H p=none) (a:FAll K G vs kvs):PostV K G so H (.ref p) (upd H p (.dK vs)) G (.own (.dk kvs)):=
  ⟨Ex.refl G,h.alloc n,fun _ _ e _=>Ex.new n _ _ e,fun _ _ g _=>g,⟨p,rfl,h.ex.free n,h.there n,vs,upd_same,a⟩,fun b o e q=>(by cases q;exact n),fun _ e=>(nomatch e)⟩
theorem amo:DE X W (.Dict [] [] pos) dDNew:=aa6 pe_dnewK fun σ H R ⟨G,so,sl,Q,E,rep,q,hq,_⟩ p n=>
  hq _ _ G _ sl ((Post.refl rep).thenV (.dct rep.h n .nil)) q
def dDPut (te tk:TD) (i:Nat):TDS:=fun E sl=>te sl (fun y s1=>(∃ kvs,s1[i]?=some (some (.own (.dk kvs))))/\tk s1 (fun z s2=>match s2[i]?,pubV y,z with
  | some (some (.own (.dk kvs))),.d d,.d kd=>(match keyOf kd with
    | some key=>kvs.length < szl/\E.nx (s2.set i (some (.own (.dk (putKD kvs key d)))))
    | none=>False)
  | _,_,_=>False) E.xc) E.xc
theorem amk (hu:X.A.units + 64 < cLine) (ho:PE X o (tVar i)) (hk:DE X W k tk) (hv:DE X W value te) (hs:swapsWith value (some (.Subscript o k pos')) pos.line X.env=pure false:=by rfl) :
    DS X W (.Assign [.Subscript o k pos'] value pos) (dDPut te tk i):=by
  refine ac8 (ps_dput (by omega) ho hk hv hs) fun D σ H ⟨G,so,sl,E,rep,q,ok⟩=>?_
  refine ⟨G,so,sl,_,E.xc,rep,q,fun v H1 G1 dv s1 p1 z=>?_,ok.xc.ex⟩
  obtain ⟨G2,p2⟩:=p1.pub
  obtain ⟨⟨kvs0,e0⟩,z⟩:=z
  obtain ⟨v0,f0,a,rfl,ga,sa,vs0,h0,d0⟩:=p2.rep.slots i _ e0
  refine ⟨.ref a,f0,G2,so,s1,_,E.xc,p2.rep,z,fun y H3 G3 dk s3 p3 z3=>?_,(ok.step p2.toPost.s).xc.ex⟩
  split at z3
  · rename_i kvs d kd e1 e2
    split at z3
    · rename_i key ek
      obtain ⟨l,z3⟩:=z3
      obtain ⟨v1,f1,b,rfl,gb,sb,vs,h1,h2⟩:=p3.rep.slots i _ e1
      rw [f0] at f1
      cases f1
      have wv:DOk X.K G3 v d:=by
        have:=p2.over p3.toPost
        rw [e2] at this;exact this
      have ey:=ak7 (show DOk X.K G3 y kd from p3.val) ek
      refine ⟨a,_,rfl,.inl ⟨vs,key,h1,ey,by rw [h2.len,<- aci];exact l,rfl⟩,?_⟩
      exact ok.nx σ _ G3 _ ((p2.toPost.trans p3.toPost).s.trans (PostS.mut (o':=.dk (putKD kvs key d)) p3.rep e1 f0 ⟨_,upd_same,h2.putK wv⟩)) z3
    · exact z3.elim
  · exact z3.elim
end
theorem alE {X:Cx} {st:Stmt} {t:TS} (h:PS X st t):PS X st (fun D σ H=>t { D with rt:=fun v H'=>∃ d u,H' d=some u/\Mut (some u)/\∀ od,D.rt v (upd H' d (.frz od u)) } σ H):=by
  refine ⟨fun pins s σ H D I hw=>thn (h.run pins s σ H _ I hw) fun f s1 q=>?_⟩
  cases f with
  | next=>exact q
  | brk=>exact q
  | cont=>exact q
  | ret v=>
    obtain ⟨x,σ',H',I2,r,d,u,hd,mu,q⟩:=q
    obtain ⟨od,I3⟩:=I2.lock hd mu
    exact ⟨x,σ',_,I3,r,q od⟩
theorem ajj {X:Cx} {e:Expr} {t:TE} (h:PE X e t):PE X e (fun σ H Q=>t σ H fun v H'=>∃ d u,H' d=some u/\Mut (some u)/\∀ od,Q v (upd H' d (.frz od u))):=by
  refine ⟨fun pins s σ H Q I hw=>thn (h.run pins s σ H _ I hw) fun v s1 ⟨x,H1,I2,r,d,u,hd,mu,q⟩=>?_⟩
  obtain ⟨od,I3⟩:=I2.lock hd mu
  exact ⟨x,_,I3,r,q od⟩
def dRetD (i:Nat):TDS:=fun E sl=>∃ kvs,sl[i]?=some (some (.own (.dk kvs)))/\E.rt (.d (.dk kvs)) sl
theorem ae5 {K:PySem.W.Frag} {G H:Hp} {so:So} {a:Addr} {u:HO} (h:HRep K G so H) (g:G a=none) (s:so.Nt a):HRep K (upd G a u) so (upd H a u):=
  ⟨h.ex.up,fun b k q=>by
    have z:b≠a:=fun z=>s (z ▸ ⟨k,q⟩)
    exact (h.vol b k q).keep (Ex.new g) (by rw [upd_ne z];exact (h.vol b k q).g) (upd_ne z),h.ok,ahj h.tp⟩
theorem ami {X:Cx} {W:WX} {i:Nat} {e:Expr} {pos:Pos} (h:PE X e (tVar i)):DS X W (.Return (some e) pos) (dRetD i):=by
  refine ac8 (alE (ps_ret h)) fun D σ H ⟨G,so,sl,E,rep,⟨kvs,e,q⟩,ok⟩=>?_
  obtain ⟨v,e1,a,rfl,ga,sa,vs,ha,fa⟩:=rep.slots i _ e
  have oa:Own sl σ a:=⟨i,_,e,e1⟩
  refine ⟨.ref a,e1,a,.dK vs,ha,trivial,fun od=>?_⟩
  refine ok.rt _ _ (upd G a (.frz od (.dK vs))) (.d (.dk kvs)) sl ⟨Ex.new ga,ae5 rep.h ga sa,fun b o eb sb nb=>?_,fun b n1 g1 sb nb=>?_,.dk upd_same (fa.mono (Ex.new ga)),fun _ _ z=>(nomatch z),fun i x C fs ei=>by
    obtain ⟨v,_,w⟩:=rep.slots i _ ei
    exact (SlOk.muU w (Ex.new ga) sa).2.2⟩ q
  · rw [upd_ne (fun z=>nb (by rw [z];exact oa))];exact eb
  · rw [upd_ne (fun z=>nb (by rw [z];exact oa))];exact g1
def mergeD (kvs more:List (Key × D)):List (Key × D):=more.foldl (fun acc kv=>putKD acc kv.1 kv.2) kvs
section
variable {K:PySem.W.Frag} {G H:Hp}
theorem FAll.merge:∀ {ws:List (Key × V)} {mvs:List (Key × D)} {vs:List (Key × V)} {kvs:List (Key × D)},FAll K G ws mvs->FAll K G vs kvs->FAll K G (mergeK vs ws) (mergeD kvs mvs)
  | _,_,_,_,.nil,h=>h
  | _,_,_,_,.cons (x:=x) (v:=v) (d:=d) (vs:=ws) (ds:=ms) a t,h=>show FAll K G (mergeK (L2.putK _ x v) ws) (mergeD (putKD _ x d) ms) from FAll.merge t (h.putK a)
end
@[irreducible] def keysR (x:DV) (P:List D->Prop):Prop:=match x with
  | .d (.dk kvs)=>P (kvs.map fun kv=>keyD kv.1)
  | .bor (.dk kvs)=>P (kvs.map fun kv=>keyD kv.1)
  | _=>False
def dKeys (te:TD):TDI:=fun sl Q E=>te sl (fun x s1=>keysR x fun ds=>Q ds s1) E
theorem ajG {K:PySem.W.Frag} {G H:Hp} {so:So} {σ:L2.St} {sl:DSt} {c:Addr} {o:Obj} {vs:List (Key × V)} {kvs:List (Key × D)} (e:H c=some (.frz o (.dK vs))) (fa:FAll K G vs kvs) (s:so.Nt c) (n:¬ Own sl σ c):ItD K G so σ H sl (Itk c o vs) (kvs.map fun kv=>keyD kv.1):=by
  have hl:vs.length=kvs.length:=fa.len
  refine ⟨[c],fun a ha=>?_,fun i H1 hi k=>?_,fun H1 k=>?_,fun i H1 x H2 G1 k g h1 y hi=>?_⟩
  · obtain rfl:a=c:=by simpa using ha
    exact ⟨by rw [e];simp,s,n⟩
  · rw [List.length_map] at hi
    exact ⟨by rw [k c (by simp)];exact e,by omega⟩
  · rw [List.length_map]
    exact ⟨by rw [k c (by simp)];exact e,by omega⟩
  · obtain ⟨rfl,key,v,e1,rfl⟩:=y
    have e2:(kvs.map fun kv=>keyD kv.1)[i]?=some (keyD key):=by
      have z:=congrArg (fun l=>l[i]?) fa.keys
      simp only [List.getElem?_map] at z ⊢
      rw [e1] at z
      cases q:kvs[i]? with
      | none=>rw [q] at z;cases z
      | some p=>rw [q] at z;cases p;simp at z;simp [z]
    exact ⟨_,G1,e2,.dat h1 (al6 key)⟩
theorem aml {X:Cx} {W:WX} {tg e:Expr} {te:TD} (h:DE X W e te):DI X W tg e (dKeys te):=by
  refine aji (pi_keys h) fun σ H R ⟨G,so,sl,Q,E,rep,q,hq,hx⟩=>?_
  refine ⟨G,so,sl,_,E,rep,q,fun x H1 G1 dx s1 p1 h1=>?_,hx⟩
  unfold keysR at h1
  split at h1
  · have w:DOk X.K G1 x (.dk _):=p1.val
    cases w with
    | dk g fa=>exact ⟨_,_,rfl,.inl ⟨_,p1.rep.h.ex _ _ g,hq _ H1 G1 _ s1 p1.toPost (ajG (p1.rep.h.ex _ _ g) fa (p1.rep.h.nsrc g) (alC p1.rep g)) h1⟩⟩
  · obtain ⟨a,rfl,sa,o,vs,g,fa⟩:=p1.val
    exact ⟨_,_,rfl,.inl ⟨_,g,hq _ H1 G1 _ s1 p1.toPost (ajG g fa sa (p1.sepv a _ (.inr rfl) rfl)) h1⟩⟩
  · exact h1.elim
theorem alY {kvs:List (Key × D)} {P:List D->Prop} (q:P (kvs.map fun kv=>keyD kv.1)):keysR (.bor (.dk kvs)) P:=by unfold keysR;exact q
def dBorD (i:Nat) (t:TD):TD:=fun sl Q _=>∃ kvs,sl[i]?=some (some (.own (.dk kvs)))/\t (sl.set i (some (.bor (.dk kvs)))) (fun v s1=>s1[i]?=some (some (.bor (.dk kvs)))/\keepR v/\Q v (s1.set i (some (.own (.dk kvs))))) (fun _ _ _=>False)
section
variable {K:PySem.W.Frag} {G H:Hp} {so:So} {σ:L2.St} {sl:DSt} {i:Nat} {a:Addr} {kvs:List (Key × D)} {vs:List (Key × V)} {od:Obj}
theorem aeS {b:Addr} {o:OO} (h:Own (sl.set i (some (.bor o))) σ b):Own sl σ b/\∃ j o',j≠i/\sl[j]?=some (some (.own o'))/\σ[j]?=some (some (.ref b)):=by
  obtain ⟨j,o',e1,e2⟩:=h
  rcases get_set e1 with ⟨_,z⟩ | ⟨ne,z⟩
  · cases z
  · exact ⟨⟨j,o',z,e2⟩,j,o',ne,z,e2⟩
theorem Rep.borD (rep:Rep K G so σ H sl) (e:sl[i]?=some (some (.own (.dk kvs)))) (e1:σ[i]?=some (some (.ref a))) (ga:G a=none) (sa:so.Nt a) (ha:H a=some (.dK vs)) (fa:FAll K G vs kvs) :
    Rep K G so σ (upd H a (.frz od (.dK vs))) (sl.set i (some (.bor (.dk kvs))))/\¬ Own (sl.set i (some (.bor (.dk kvs)))) σ a:=by
  have hi:i < sl.length:=(List.getElem?_eq_some_iff.mp e).1
  have oa:Own sl σ a:=⟨i,_,e,e1⟩
  have na:¬ Own (sl.set i (some (.bor (.dk kvs)))) σ a:=fun z=>by
    obtain ⟨_,j,o',ne,z1,z2⟩:=aeS z
    exact ne (rep.sep j i o' _ a z1 e z2 e1)
  refine ⟨⟨⟨fun b o q=>?_,fun b k q=>?_,rep.h.ok,ad7 rep.h.tp (by intro _ z;cases z)⟩,by rw [List.length_set];exact rep.len,fun j d ej=>?_,fun j k o1 o2 b q1 q2 q3 q4=>?_,fun j o1 b q1 q2 z=>?_,fun j o1 z=>?_⟩,na⟩
  · rw [upd_ne (fun z=>by rw [z,ga] at q;cases q)];exact rep.h.ex b o q
  · exact (rep.h.vol b k q).keep (Ex.refl _) (rep.h.vol b k q).g (upd_ne fun z=>sa (z ▸ ⟨k,q⟩))
  · rcases get_set ej with ⟨rfl,z⟩ | ⟨ne,z⟩
    · cases z;exact ⟨_,e1,a,rfl,sa,od,vs,upd_same,fa⟩
    · obtain ⟨v,f1,f2⟩:=rep.slots j d z
      refine ⟨v,f1,?_⟩
      cases d with
      | d x=>exact f2
      | src=>exact f2
      | own o=>
        obtain ⟨b,rfl,g1,s1,k⟩:=f2
        have ab:b≠a:=fun q=>ne (rep.sep j i o _ a z e (q ▸ f1) e1)
        exact ⟨b,rfl,g1,s1,k.keep (Ex.refl _) (upd_ne ab)⟩
      | bor o=>
        obtain ⟨b,rfl,s1,k⟩:=f2
        have ab:b≠a:=fun q=>rep.bor j o b z f1 (q ▸ oa)
        exact ⟨b,rfl,s1,k.keep (Ex.refl _) (upd_ne ab)⟩
      | see o=>exact absurd z (rep.nse j o)
      | mu y D gs=>exact SlOk.muU f2 (Ex.refl _) sa
      | gh _ _=>exact SlOk.ghU f2 (Ex.refl _) sa
  · rcases get_set q1 with ⟨_,z⟩ | ⟨_,z1⟩
    · cases z
    · rcases get_set q2 with ⟨_,z⟩ | ⟨_,z2⟩
      · cases z
      · exact rep.sep j k o1 o2 b z1 z2 q3 q4
  · rcases get_set q1 with ⟨rfl,y⟩ | ⟨ne,y⟩
    · rw [e1] at q2;cases q2;exact na z
    · exact rep.bor j o1 b y q2 (aeS z).1
  · rcases get_set z with ⟨_,y⟩ | ⟨ne,y⟩
    · cases y
    · exact rep.nse j o1 y
theorem amp {X:Cx} {W:WX} {e:Expr} {t:TD} (h:DE X W e t):DE X W e (dBorD i t):=by
  refine aa6 (pe_lock h) fun σ H R ⟨G,so,sl,Q,E,rep,⟨kvs,e,q⟩,hq,hx⟩=>?_
  obtain ⟨v,e1,a,rfl,ga,sa,vs,ha,fa⟩:=rep.slots i _ e
  have hi:i < sl.length:=(List.getElem?_eq_some_iff.mp e).1
  have oa:Own sl σ a:=⟨i,_,e,e1⟩
  refine ⟨a,.dK vs,ha,trivial,fun od=>?_⟩
  obtain ⟨rep',na⟩:=rep.borD (od:=od) e e1 ga sa ha fa
  have up_a:∀ b,b≠a->upd H a (.frz od (.dK vs)) b=H b:=fun b n=>upd_ne n
  refine ⟨G,so,_,_,_,rep',q,fun v H' G' dv sl' p z=>?_,fun _ _ _ _ _ _ _ _ z=>z.elim⟩
  obtain ⟨z0,z1,z2⟩:=z
  have hi':i < sl'.length:=(List.getElem?_eq_some_iff.mp z0).1
  have g':G' a=none:=p.frm a (by rw [upd_same];simp) ga sa na
  have h':H' a=some (.frz od (.dK vs)):=p.keep a _ upd_same sa
  have nown:¬ Own sl' σ a:=fun w=>na (p.sub a w)
  have nbor:∀ (j:Nat) (o:OO),j≠i->sl'[j]?=some (some (.bor o))->σ[j]?≠some (some (.ref a)):=fun j o ne q1 q2=>by
    obtain ⟨o',q3⟩:=p.bsub j o q1
    rcases get_set q3 with ⟨y,_⟩ | ⟨_,y⟩
    · exact ne y
    · exact rep.bor j o' a y q2 oa
  refine ⟨h',hq v _ G' dv (sl'.set i (some (.own (.dk kvs)))) ?_ z2⟩
  have ownset:∀ b,Own (sl'.set i (some (.own (.dk kvs)))) σ b->b=a\/Own sl' σ b:=fun b ⟨j,o,q1,q2⟩=>by
    rcases get_set q1 with ⟨rfl,_⟩ | ⟨_,y⟩
    · rw [e1] at q2;cases q2;exact .inl rfl
    · exact .inr ⟨j,o,y,q2⟩
  have vne:∀ (o:OO) (b:Addr),dv=.own o->v=.ref b->b≠a:=fun o b q1 q2 y=>by
    subst y
    rcases p.new b o q1 q2 with y | y
    · rw [upd_same] at y;cases y
    · exact na y
  refine { ex:=p.ex,rep:=⟨⟨fun b o q1=>?_,fun b k q1=>?_,p.rep.h.ok,ad7 p.rep.h.tp (by intro _ z;cases z)⟩,by rw [List.length_set];exact p.rep.len,fun j d ej=>?_,fun j k o1 o2 b q1 q2 q3 q4=>?_,fun j o1 b q1 q2 w=>?_,fun j o1 w=>?_⟩,keep:=fun b o q1 sb=>?_,frm:=fun b n1 g1 sb w=>?_,sub:=fun b w=>?_,bsub:=fun j o w=>?_,val:=?_,new:=fun b o q1 q2=>?_,sepv:=fun b o q1 q2 w=>?_,nbs:=fun b o j o' q1 q2 q3 q4=>?_ }
  · rw [upd_ne (fun y=>by rw [y,g'] at q1;cases q1)];exact p.rep.h.ex b o q1
  · exact (p.rep.h.vol b k q1).keep (Ex.refl _) (p.rep.h.vol b k q1).g (upd_ne fun y=>sa (y ▸ ⟨k,q1⟩))
  · rcases get_set ej with ⟨rfl,y⟩ | ⟨ne,y⟩
    · cases y;exact ⟨_,e1,a,rfl,g',sa,vs,upd_same,fa.mono p.ex⟩
    · obtain ⟨v',f1,f2⟩:=p.rep.slots j d y
      refine ⟨v',f1,?_⟩
      cases d with
      | d x=>exact f2
      | src=>exact f2
      | own o=>
        obtain ⟨b,rfl,g1,s1,k⟩:=f2
        have ab:b≠a:=fun q=>nown (q ▸ ⟨j,o,y,f1⟩)
        exact ⟨b,rfl,g1,s1,k.keep (Ex.refl _) (upd_ne ab)⟩
      | bor o=>
        obtain ⟨b,rfl,s1,k⟩:=f2
        have ab:b≠a:=fun q=>nbor j o ne y (q ▸ f1)
        exact ⟨b,rfl,s1,k.keep (Ex.refl _) (upd_ne ab)⟩
      | see o=>exact absurd y (p.rep.nse j o)
      | mu y D gs=>exact SlOk.muU f2 (Ex.refl _) sa
      | gh _ _=>exact SlOk.ghU f2 (Ex.refl _) sa
  · rcases get_set q1 with ⟨rfl,y⟩ | ⟨n1,y1⟩
    · rcases get_set q2 with ⟨rfl,_⟩ | ⟨n2,y2⟩
      · rfl
      · rw [e1] at q3;cases q3;exact absurd ⟨k,o2,y2,q4⟩ nown
    · rcases get_set q2 with ⟨rfl,_⟩ | ⟨n2,y2⟩
      · rw [e1] at q4;cases q4;exact absurd ⟨j,o1,y1,q3⟩ nown
      · exact p.rep.sep j k o1 o2 b y1 y2 q3 q4
  · rcases get_set q1 with ⟨_,y⟩ | ⟨ne,y⟩
    · cases y
    · rcases ownset b w with rfl | w
      · exact nbor j o1 ne y q2
      · exact p.rep.bor j o1 b y q2 w
  · rcases get_set w with ⟨_,y⟩ | ⟨ne,y⟩
    · cases y
    · exact p.rep.nse j o1 y
  · by_cases y:b=a
    · subst y;rw [ha] at q1;cases q1;exact upd_same
    · rw [upd_ne y];exact p.keep b o (by rw [up_a b y];exact q1) sb
  · have y:b≠a:=fun y=>w (y ▸ oa)
    exact p.frm b (by rw [up_a b y];exact n1) g1 sb fun k=>w (aeS k).1
  · rcases ownset b w with rfl | w
    · exact oa
    · exact (aeS (p.sub b w)).1
  · rcases get_set w with ⟨_,y⟩ | ⟨ne,y⟩
    · cases y
    · obtain ⟨o',q3⟩:=p.bsub j o y
      rcases get_set q3 with ⟨y,_⟩ | ⟨_,y⟩
      · exact absurd y ne
      · exact ⟨o',y⟩
  · have w:=p.val
    cases dv with
    | d x=>exact w
    | src=>exact w
    | own o=>
      obtain ⟨b,rfl,g1,s1,k⟩:=w
      exact ⟨b,rfl,g1,s1,k.keep (Ex.refl _) (upd_ne (vne o b rfl rfl))⟩
    | bor o=>exact z1.elim
    | see o=>exact z1.elim
    | mu _ _ _=>exact w.elim
    | gh _ _=>exact w.elim
  · rcases p.new b o q1 q2 with y | y
    · refine .inl ?_
      by_cases q:b=a
      · exact absurd q (vne o b q1 q2)
      · rw [<- up_a b q];exact y
    · exact .inr (aeS y).1
  · rcases ownset b w with y | w
    · rcases q1 with q1 | q1
      · exact vne o b q1 q2 y
      · rw [q1] at z1;exact z1
    · exact p.sepv b o q1 q2 w
  · rcases get_set q3 with ⟨_,y⟩ | ⟨ne,y⟩
    · cases y
    · exact p.nbs b o j o' q1 q2 y q4
end
section
variable {X:Cx} {k:Nat} {f C:Addr} {fd:FuncData} {ps:List Str} {sp:SpD}
end
section
variable {X:Cx} {W:WX} {o key value:Expr} {tk te:TD} {pos pos':Pos} {i:Nat}
end
end DL
set_option maxHeartbeats 4000000
namespace K14
open PySem PySem.Spec PyProof.Rows L2 DL
def topS (i:Nat):Stmt:=PySem.Challenge.pw_missingmiles_k14_tables_of_worlds_refuse.main.body.getD i (.Pass ⟨0,0,0,0⟩)
abbrev ab1:Stmt:=topS 16
abbrev aaI:Nat:=0
abbrev abK:Stmt:=topS 17
abbrev abz:Nat:=1
abbrev ab2:Stmt:=topS 18
abbrev abn:Nat:=2
abbrev abJ:Stmt:=topS 19
abbrev abx:Nat:=3
abbrev acP:Stmt:=topS 20
abbrev acD:Nat:=4
abbrev ab0:Stmt:=topS 21
abbrev abm:Nat:=5
abbrev aeP:Stmt:=topS 22
abbrev aee:Nat:=6
abbrev adC:Stmt:=topS 23
abbrev adf:Nat:=7
abbrev ab9:Stmt:=topS 28
abbrev acb:Nat:=8
abbrev abt:Stmt:=topS 33
abbrev aby:Nat:=9
abbrev aaP:Stmt:=topS 34
abbrev aaZ:Nat:=10
abbrev aaF:Stmt:=topS 35
abbrev aaG:Nat:=11
abbrev aay:Stmt:=topS 36
abbrev aaz:Nat:=12
abbrev aaK:Stmt:=inClass (topS 37) 1
abbrev aas:Nat:=13
abbrev abv:Stmt:=inClass (topS 37) 2
abbrev aaA:Nat:=14
abbrev aa4:Stmt:=inClass (topS 37) 3
abbrev aaR:Nat:=15
abbrev abk:Stmt:=inClass (topS 37) 4
abbrev aa2:Nat:=16
abbrev abr:Stmt:=topS 30
abbrev aba:Nat:=17
abbrev aaJ:Stmt:=inClass (topS 37) 17
abbrev aaW:Nat:=18
abbrev abg:Stmt:=topS 39
abbrev abD:Nat:=19
abbrev abj:Stmt:=topS 40
abbrev aau:Nat:=20
abbrev acr:Stmt:=topS 41
abbrev acd:Nat:=21
abbrev abL:Stmt:=topS 42
abbrev abA:Nat:=22
abbrev abi:Stmt:=topS 43
abbrev abE:Nat:=23
abbrev s__law_ask:Stmt:=topS 44
abbrev aa8:Nat:=24
abbrev ab3:Stmt:=topS 45
abbrev abo:Nat:=25
abbrev abM:Stmt:=topS 46
abbrev aaL:Nat:=26
abbrev abN:Stmt:=topS 47
abbrev aa5:Nat:=27
abbrev abu:Stmt:=topS 48
abbrev abc:Nat:=28
abbrev abh:Stmt:=topS 49
abbrev aa0:Nat:=29
abbrev abO:Stmt:=topS 50
abbrev abB:Nat:=30
abbrev aaX:Stmt:=topS 51
abbrev aa1:Nat:=31
abbrev aa9:Stmt:=topS 52
abbrev abb:Nat:=32
abbrev aap:Stmt:=topS 53
abbrev aaq:Nat:=33
abbrev adB:Stmt:=topS 54
abbrev agn:Nat:=34
abbrev aaw:Stmt:=inClass (topS 5) 0
abbrev abU:List (Str × (Str ⊕ Str)):=[("code",.inl "InvalidRatio"),("given",.inr "given")]
abbrev aco (given:D):List (Str × D):=[("given",given),("code",.str "InvalidRatio")]
abbrev aav:Stmt:=inClass (topS 8) 0
abbrev abT:List (Str × (Str ⊕ Str)):=[("code",.inl "InvalidTable"),("layer",.inr "layer")]
abbrev abW (layer:D):List (Str × D):=[("layer",layer),("code",.str "InvalidTable")]
abbrev aaO:Stmt:=inClass (topS 9) 0
abbrev ack:List (Str × (Str ⊕ Str)):=[("code",.inl "InvalidWay"),("layer",.inr "layer"),("start",.inr "start"),("goal",.inr "goal")]
abbrev abe (layer:D) (start:D) (goal:D):List (Str × D):=[("goal",goal),("start",start),("layer",layer),("code",.str "InvalidWay")]
abbrev abC:Stmt:=inClass (topS 11) 0
abbrev adi:List (Str × (Str ⊕ Str)):=[("code",.inl "TooMany"),("subject",.inr "subject"),("most",.inr "most")]
abbrev adU (subject:D) (most:D):List (Str × D):=[("most",most),("subject",subject),("code",.str "TooMany")]
abbrev aaD:Stmt:=inClass (topS 6) 0
abbrev ab5:List (Str × (Str ⊕ Str)):=[("code",.inl "InvalidName"),("given",.inr "given")]
abbrev acE (given:D):List (Str × D):=[("given",given),("code",.str "InvalidName")]
abbrev aax:Stmt:=inClass (topS 10) 0
abbrev abV:List (Str × (Str ⊕ Str)):=[("code",.inl "InvalidPlace"),("given",.inr "given")]
abbrev acp (given:D):List (Str × D):=[("given",given),("code",.str "InvalidPlace")]
theorem aeD (given:D):xdD ["given"] abU [given]=aco given:=by first | rfl | kernel_rfl
theorem aeB {E:Value->List (Str × D)->Prop} {v:Value} {given:D} (h:E v (aco given)):E v (xdD ["given"] abU [given]):=by rw [aeD];exact h
theorem aeC (layer:D):xdD ["layer"] abT [layer]=abW layer:=by first | rfl | kernel_rfl
theorem ac3 {E:Value->List (Str × D)->Prop} {v:Value} {layer:D} (h:E v (abW layer)):E v (xdD ["layer"] abT [layer]):=by rw [aeC];exact h
theorem afU (layer:D) (start:D) (goal:D):xdD ["layer","start","goal"] ack [layer,start,goal]=abe layer start goal:=by first | rfl | kernel_rfl
theorem afT {E:Value->List (Str × D)->Prop} {v:Value} {layer:D} {start:D} {goal:D} (h:E v (abe layer start goal)):E v (xdD ["layer","start","goal"] ack [layer,start,goal]):=by rw [afU];exact h
theorem aiq (subject:D) (most:D):xdD ["subject","most"] adi [subject,most]=adU subject most:=by first | rfl | kernel_rfl
theorem aip {E:Value->List (Str × D)->Prop} {v:Value} {subject:D} {most:D} (h:E v (adU subject most)):E v (xdD ["subject","most"] adi [subject,most]):=by rw [aiq];exact h
theorem afl (given:D):xdD ["given"] ab5 [given]=acE given:=by first | rfl | kernel_rfl
theorem afk {E:Value->List (Str × D)->Prop} {v:Value} {given:D} (h:E v (acE given)):E v (xdD ["given"] ab5 [given]):=by rw [afl];exact h
theorem aeE (given:D):xdD ["given"] abV [given]=acp given:=by first | rfl | kernel_rfl
theorem ac4 {E:Value->List (Str × D)->Prop} {v:Value} {given:D} (h:E v (acp given)):E v (xdD ["given"] abV [given]):=by rw [aeE];exact h
section
variable {P:Program} {w:World} {K:PySem.W.Frag} {mg:Str->Option Value} {base:Heap} {a:Nat->Addr} {d:Nat->FuncData}
def df0:He.DefD:=⟨("is_whole",none),"is_whole","is_whole",defArgs ab1,defBody ab1,defScope ab1,[],[]⟩
def df1:He.DefD:=⟨("is_number",none),"is_number","is_number",defArgs abK,defBody abK,defScope abK,[],[]⟩
def df2:He.DefD:=⟨("is_ratio",none),"is_ratio","is_ratio",defArgs ab2,defBody ab2,defScope ab2,[],[]⟩
def df3:He.DefD:=⟨("is_valued",none),"is_valued","is_valued",defArgs abJ,defBody abJ,defScope abJ,[],[]⟩
def df4:He.DefD:=⟨("lowest",none),"lowest","lowest",defArgs acP,defBody acP,defScope acP,[],[]⟩
def df5:He.DefD:=⟨("ratio_of",none),"ratio_of","ratio_of",defArgs ab0,defBody ab0,defScope ab0,[],[]⟩
def df6:He.DefD:=⟨("plus",none),"plus","plus",defArgs aeP,defBody aeP,defScope aeP,[],[]⟩
def df7:He.DefD:=⟨("below",none),"below","below",defArgs adC,defBody adC,defScope adC,[],[]⟩
def df8:He.DefD:=⟨("is_name",none),"is_name","is_name",defArgs ab9,defBody ab9,defScope ab9,[],[]⟩
def df9:He.DefD:=⟨("is_square",none),"is_square","is_square",defArgs abt,defBody abt,defScope abt,[],[]⟩
def df10:He.DefD:=⟨("first_fault",none),"first_fault","first_fault",defArgs aaP,defBody aaP,defScope aaP,[],[]⟩
def df11:He.DefD:=⟨("checked_table",none),"checked_table","checked_table",defArgs aaF,defBody aaF,defScope aaF,[],[]⟩
def df12:He.DefD:=⟨("checked_places",none),"checked_places","checked_places",defArgs aay,defBody aay,defScope aay,[],[]⟩
def df13:He.DefD:=⟨("World",some "__init__"),"__init__","World.__init__",defArgs aaK,defBody aaK,defScope aaK,[],[("cart",.non)]⟩
def df14:He.DefD:=⟨("World",some "size"),"size","World.size",defArgs abv,defBody abv,defScope abv,[],[]⟩
def df15:He.DefD:=⟨("World",some "layers"),"layers","World.layers",defArgs aa4,defBody aa4,defScope aa4,[],[]⟩
def df16:He.DefD:=⟨("World",some "names"),"names","World.names",defArgs abk,defBody abk,defScope abk,[],[]⟩
def df17:He.DefD:=⟨("names_text",none),"names_text","names_text",defArgs abr,defBody abr,defScope abr,[],[]⟩
def df18:He.DefD:=⟨("World",some "__repr__"),"__repr__","World.__repr__",defArgs aaJ,defBody aaJ,defScope aaJ,[],[]⟩
def df19:He.DefD:=⟨("_law_source",none),"_law_source","_law_source",defArgs abg,defBody abg,defScope abg,[],[]⟩
def df20:He.DefD:=⟨("_law_draw",none),"_law_draw","_law_draw",defArgs abj,defBody abj,defScope abj,[],[]⟩
def df21:He.DefD:=⟨("_law_of",none),"_law_of","_law_of",defArgs acr,defBody acr,defScope acr,[],[]⟩
def df22:He.DefD:=⟨("_law_same",none),"_law_same","_law_same",defArgs abL,defBody abL,defScope abL,[],[]⟩
def df23:He.DefD:=⟨("_law_fields",none),"_law_fields","_law_fields",defArgs abi,defBody abi,defScope abi,[],[]⟩
def df24:He.DefD:=⟨("_law_ask",none),"_law_ask","_law_ask",defArgs s__law_ask,defBody s__law_ask,defScope s__law_ask,[],[]⟩
def df25:He.DefD:=⟨("_law_low",none),"_law_low","_law_low",defArgs ab3,defBody ab3,defScope ab3,[],[]⟩
def df26:He.DefD:=⟨("_law_plus",none),"_law_plus","_law_plus",defArgs abM,defBody abM,defScope abM,[],[]⟩
def df27:He.DefD:=⟨("_law_less",none),"_law_less","_law_less",defArgs abN,defBody abN,defScope abN,[],[]⟩
def df28:He.DefD:=⟨("_law_least",none),"_law_least","_law_least",defArgs abu,defBody abu,defScope abu,[],[]⟩
def df29:He.DefD:=⟨("_law_length",none),"_law_length","_law_length",defArgs abh,defBody abh,defScope abh,[],[]⟩
def df30:He.DefD:=⟨("_law_bare",none),"_law_bare","_law_bare",defArgs abO,defBody abO,defScope abO,[],[]⟩
def df31:He.DefD:=⟨("_law_closed",none),"_law_closed","_law_closed",defArgs aaX,defBody aaX,defScope aaX,[],[]⟩
def df32:He.DefD:=⟨("_law_table",none),"_law_table","_law_table",defArgs aa9,defBody aa9,defScope aa9,[],[]⟩
def df33:He.DefD:=⟨("_law_first_wrong",none),"_law_first_wrong","_law_first_wrong",defArgs aap,defBody aap,defScope aap,[],[]⟩
def df34:He.DefD:=⟨("law",none),"law","law",defArgs adB,defBody adB,defScope adB,[],[]⟩
def fnL:List He.DefD:=[df0,df1,df2,df3,df4,df5,df6,df7,df8,df9,df10,df11,df12,df13,df16,df17,df18,df19,df20,df21,df22,df23,df24,df25,df26,df27,df28,df29,df30,df31,df32,df33,df34]
def ps14:PSpec:=⟨"World","size",df14,false⟩
def ps15:PSpec:=⟨"World","layers",df15,false⟩
def faL:List He.Fa:=([.glo "is_whole",.glo "is_number",.glo "is_ratio",.glo "is_valued",.glo "lowest",.glo "ratio_of",.glo "plus",.glo "below",.glo "is_name",.glo "is_square",.glo "first_fault",.glo "checked_table",.glo "checked_places",.mkr "World",.meth "World" "names",.glo "names_text",.meth "World" "__repr__",.glo "_law_source",.glo "_law_draw",.glo "_law_of",.glo "_law_same",.glo "_law_fields",.glo "_law_ask",.glo "_law_low",.glo "_law_plus",.glo "_law_less",.glo "_law_least",.glo "_law_length",.glo "_law_bare",.glo "_law_closed"]:List He.Fa)++([.glo "_law_table",.glo "_law_first_wrong",.glo "law",.glo "World",.cls "World",.noat "World" "own_tables",.noat "World" "own_names",.glo "InvalidRatio",.glo "InvalidTable",.glo "InvalidWay",.glo "TooMany",.glo "InvalidName",.glo "InvalidPlace",.glo "MilesError",.glo "Missing",.glo "NothingLeft",.free "abs",.free "all",.free "any",.free "bool",.free "int",.free "isinstance",.free "len",.free "list",.free "range",.free "repr",.free "sorted",.free "str",.free "super",.free "tuple"]:List He.Fa)
def ac1:XSpec:=⟨"InvalidRatio",0,["code","given"],defArgs aaw,defBody aaw,defScope aaw⟩
def ac0:XSpec:=⟨"InvalidTable",0,["code","layer"],defArgs aav,defBody aav,defScope aav⟩
def adG:XSpec:=⟨"InvalidWay",0,["code","layer","start","goal"],defArgs aaO,defBody aaO,defScope aaO⟩
def afB:XSpec:=⟨"TooMany",0,["code","subject","most"],defArgs abC,defBody abC,defScope abC⟩
def adt:XSpec:=⟨"InvalidName",0,["code","given"],defArgs aaD,defBody aaD,defScope aaD⟩
def ac2:XSpec:=⟨"InvalidPlace",0,["code","given"],defArgs aax,defBody aax,defScope aax⟩
def lyL:LZ:={ cs:=[("ZERO",.tup [.int 0,.int 1]),("LETTERS",.str "abcdefghijklmnopqrstuvwxyz"),("MOST_NAMED",.int 5),("MOST_PLACES",.int 9)],bs:=[("gcd","math.gcd")],xs:=[],file:=PySem.Challenge.rw_missingmiles_k14_tables_of_worlds_refuse.prog.main.file,ask:=true,ex:=[ac1,ac0,adG,afB,adt,ac2],ci:=[],pr:=[ps14,ps15] }
def newA (vis:Nat):List Addr->List Addr × Nat
  | []=>([],vis)
  | a::r=>match Nat.beq (Nat.land (Nat.shiftRight vis a) 1) 1 with
    | true=>newA vis r
    | false=>(a::(newA (Nat.lor vis (Nat.shiftLeft 1 a)) r).1,(newA (Nat.lor vis (Nat.shiftLeft 1 a)) r).2)
def lvA (g:Addr->Option Obj):Nat->List Addr->Nat->List Addr
  | 0,_,_=>[]
  | n + 1,fr,vis=>match newA vis (fr.flatMap fun a=>match g a with
      | some o=>He.refsD o
      | none=>[]) with
    | (nx,vis2)=>nx++lvA g n nx vis2
def asA (g:Addr->Option Obj) (n:Nat):List Addr:=(fun as=>as++cStatics::as.flatMap fun a=>match g a with
  | some ⟨_,_,.func fd,_⟩=>fd.closure.map (·.2)++He.refV fd.code
  | some ⟨.type c,_,.seq its _,_⟩=>if c == "tuple" then its.toList.flatMap He.refV else []
  | _=>[]) (mainGlobals::lvA g n [mainGlobals] (Nat.shiftLeft 1 mainGlobals))
def obsXA (n:Nat) (l:LX) (fa:List He.Fa) (fn:List He.DefD) (g:Addr->Option Obj):AlX:=(l.ok g (He.frT g (asA g n)),He.obsD fa fn (He.frT g (asA g n)))
theorem saysA_of {n:Nat} {l:LX} {fa:List He.Fa} {fn:List He.DefD} {h:Heap} (e:obsXA n l fa fn h.get?=valX fn):SaysX l fa fn h (He.frT h.get? (asA h.get? n)):=by
  have e1:l.ok h.get? (He.frT h.get? (asA h.get? n))=true:=congrArg (fun z:AlX=>z.1) e
  obtain ⟨h1,h2⟩:=He.ba e1
  have key:∀ q∈lamFns (He.frT h.get? (asA h.get? n)),PySem.W.codeHdIn (He.frT h.get? (asA h.get? n)) q.1 q.2.1=true/\(∃ o,h.get? q.2.1=some o/\He.emptyTab o=true)/\∀ q'∈lamFns (He.frT h.get? (asA h.get? n)),q.2.1=q'.2.1->q.2.2=q'.2.2:=fun q hq=>by
    obtain ⟨z1,z2⟩:=He.ba (List.all_eq_true.mp h2 q hq)
    obtain ⟨z3,z4⟩:=He.ba z2
    refine ⟨z1,?_,fun q' hq' e=>?_⟩
    · split at z3
      · rename_i o y
        exact ⟨o,y,z3⟩
      · cases z3
    · have y:=List.all_eq_true.mp z4 q' hq'
      rw [Bool.or_eq_true,bne_iff_ne,beq_iff_eq] at y
      exact y.resolve_left fun z=>z e
  refine ⟨h1,congrArg (fun z:AlX=>z.2) e,fun p hp=>(key p hp).1,fun p hp=>?_,fun p hp=>?_,fun q hq q' hq'=>(key q hq).2.2 q' hq'⟩
  · obtain ⟨_,⟨o,q,z⟩,_⟩:=key p hp
    exact He.frT_none q z
  · obtain ⟨_,⟨o,q,z⟩,_⟩:=key p hp
    rw [q,He.emptyTab_eq z]
def obsYA (n:Nat) (l:LY) (fa:List He.Fa) (fn:List He.DefD) (g:Addr->Option Obj):AlY:=(l.ok g (He.frT g (asA g n)),He.obsD fa fn (He.frT g (asA g n)),l.ex.map fun e=>exObs (He.frT g (asA g n)) (He.ga (He.frT g (asA g n)) e.name))
theorem saysYA_of {n:Nat} {l:LY} {fa:List He.Fa} {fn:List He.DefD} {h:Heap} (e:obsYA n l fa fn h.get?=valY l fn):SaysY l fa fn h (He.frT h.get? (asA h.get? n)):=by
  have e1:l.ok h.get? (He.frT h.get? (asA h.get? n))=true:=congrArg (fun z:AlY=>z.1) e
  have e2:He.obsD fa fn (He.frT h.get? (asA h.get? n))=He.valD fn:=congrArg (fun z:AlY=>z.2.1) e
  have e3:(l.ex.map fun e=>exObs (He.frT h.get? (asA h.get? n)) (He.ga (He.frT h.get? (asA h.get? n)) e.name))=l.ex.map fun e=>some e.text:=congrArg (fun z:AlY=>z.2.2) e
  obtain ⟨a1,a2⟩:=He.ba e1
  have b:obsXA n l.toLX fa fn h.get?=valX fn:=by
    show (l.toLX.ok h.get? (He.frT h.get? (asA h.get? n)),He.obsD fa fn (He.frT h.get? (asA h.get? n)))=(true,He.valD fn)
    rw [a1,e2]
  exact { saysA_of b with x:=fun e he=>xB_ok (List.all_eq_true.mp a2 e he) (List.map_inj_left.mp e3 e he) }
def obsZA (n:Nat) (l:LZ) (fa:List He.Fa) (fn:List He.DefD) (g:Addr->Option Obj):AlZ:=(l.ok (He.frT g (asA g n)),obsYA n l.toLY fa fn g,l.pr.map fun q=>fnWa (He.frT g (asA g n)) (gAt (He.frT g (asA g n)) (He.ga (He.frT g (asA g n)) q.cls) q.prop))
theorem ai0 {n:Nat} {l:LZ} {fa:List He.Fa} {fn:List He.DefD} {h:Heap} (e:obsZA n l fa fn h.get?=valZ l fn):SaysZ l fa fn h (He.frT h.get? (asA h.get? n)):=by
  have e1:l.ok (He.frT h.get? (asA h.get? n))=true:=congrArg (fun z:AlZ=>z.1) e
  have e2:obsYA n l.toLY fa fn h.get?=valY l.toLY fn:=congrArg (fun z:AlZ=>z.2.1) e
  have e3:(l.pr.map fun q=>fnWa (He.frT h.get? (asA h.get? n)) (gAt (He.frT h.get? (asA h.get? n)) (He.ga (He.frT h.get? (asA h.get? n)) q.cls) q.prop))=l.pr.map fun q=>q.df.val:=congrArg (fun z:AlZ=>z.2.2) e
  obtain ⟨a1,a2⟩:=He.ba e1
  exact { saysYA_of e2 with ci:=fun C hC=>cB_ok (List.all_eq_true.mp a1 C hC),pr:=fun q hq=>pB_ok (List.all_eq_true.mp a2 q hq) (List.map_inj_left.mp e3 q hq) }
def hookZA (n:Nat) (l:LZ) (fa:List He.Fa) (fn:List He.DefD):PySem.W.Hook where
  α:=AlZ
  obs:=fun s=>obsZA n l fa fn s.heap.get?
  val:=fun _=>valZ l fn
  says:=fun _ h=>∃ K:PySem.W.Frag,K.In h/\SaysZ l fa fn h K
  of:=fun _ _ e=>⟨_,He.frT_in,ai0 e⟩
  keeps:=fun _ _ _ ⟨K,hK,c⟩ k=>⟨K,PySem.W.Frag.In.keeps hK k,⟨⟨⟨c.c,c.s,c.tc,c.tn,fun p hp=>k _ _ (c.te p hp),c.tu⟩,c.x⟩,c.ci,c.pr⟩⟩
theorem aks {n:Nat} {l:LZ} {fa:List He.Fa} {fn:List He.DefD} {g:Addr->Option Obj} {s:Shared} (h:∀ a,g a=s.heap.get? a):obsZA n l fa fn g=(hookZA n l fa fn).obs s:=by
  have e:g=s.heap.get?:=funext h
  rw [e]<;>rfl
abbrev RR:PySem.W.OpenRow:=PySem.W.OpenLaw.row PySem.Challenge.rw_missingmiles_k14_tables_of_worlds_refuse
abbrev hk:PySem.W.Hook:=hookZA 4 lyL faL fnL
def ob (s:PySem.W.SharedT):AlZ:=obsZA 4 lyL faL fnL (HandSHeadRun.getT s)
theorem ob_eq (s:PySem.W.SharedT):ob s=hk.obs s.abs:=aks (HandSHeadRun.getT_eq s)
def names:List PySem.Str:=(["_wall","MilesError","Missing","InvalidRatio","InvalidName","InvalidLayer","InvalidTable","InvalidWay","InvalidPlace","TooMany","UnknownName","NothingLeft","ZERO","is_whole","is_number","is_ratio","is_valued","lowest","ratio_of","plus","below","LETTERS","LAYERS","MOST_NAMED","is_name","is_layer","names_text","MOST_PLACES","is_square","first_fault"]:List PySem.Str)++(["checked_table","checked_places","World","_law_source","_law_draw","_law_of","_law_same","_law_fields","_law_ask","_law_low","_law_plus","_law_less","_law_least","_law_length","_law_bare","_law_closed","_law_table","_law_first_wrong"]:List PySem.Str)
abbrev qv:Program:=PySem.W.view RR.prog [0,54]
theorem ai2 {α γ:Type} {β0:Type} {β1:Type} {β2:Type} {β3:Type} {o:Option α} {f0:α->β0} {b0:β0} {f1:α->β1} {b1:β1} {f2:α->β2} {b2:β2} {f3:α->β3} {b3:β3} {f:α->γ} {b:γ} (h0:o.map f0=some b0) (h1:o.map f1=some b1) (h2:o.map f2=some b2) (h3:o.map f3=some b3) (h:∀ x,f0 x=b0->f1 x=b1->f2 x=b2->f3 x=b3->f x=b):o.map f=some b:=by
  cases o with
  | none=>cases h0
  | some x=>
    show some (f x)=some b
    rw [h x (Option.some.inj h0) (Option.some.inj h1) (Option.some.inj h2) (Option.some.inj h3)]
theorem aly {T1:Type} {T6:Type} {T7:Type} {T8:Type} {a0 b0:Bool} (h0:a0=b0) {a1 b1:T1} (h1:a1=b1) {a2 b2:Bool} (h2:a2=b2) {a3 b3:Bool} (h3:a3=b3) {a4 b4:Bool} (h4:a4=b4) {a5 b5:Bool} (h5:a5=b5) {a6 b6:T6} (h6:a6=b6) {a7 b7:T7} (h7:a7=b7) {a8 b8:T8} (h8:a8=b8):(a0,a1,(a2,(a3,(a4 && a5,a6),a7),a8))=(b0,b1,(b2,(b3,(b4 && b5,b6),b7),b8)):=by
  subst h0 h1 h2 h3 h4 h5 h6 h7 h8
  rfl
theorem runG0 (w:World):(HandSHeadRun.wholeF (fun p=>HandSHeadRun.stepQ (HandSHeadRun.denQ HandSHeadRun.tabQ) p w) HandSHeadRun.fenceQ 9000 RR.prog).map (fun x=>(HandSHeadRun.looksF RR.prog x.1.heap x.2.abs,lyL.ok (He.frT (HandSHeadRun.getT x.2) (asA (HandSHeadRun.getT x.2) 4)),lyL.toLY.ex.map fun e=>exObs (He.frT (HandSHeadRun.getT x.2) (asA (HandSHeadRun.getT x.2) 4)) (He.ga (He.frT (HandSHeadRun.getT x.2) (asA (HandSHeadRun.getT x.2) 4)) e.name),lyL.pr.map fun q=>fnWa (He.frT (HandSHeadRun.getT x.2) (asA (HandSHeadRun.getT x.2) 4)) (gAt (He.frT (HandSHeadRun.getT x.2) (asA (HandSHeadRun.getT x.2) 4)) (He.ga (He.frT (HandSHeadRun.getT x.2) (asA (HandSHeadRun.getT x.2) 4)) q.cls) q.prop)))=some ((true,true,lyL.toLY.ex.map fun e=>some e.text,lyL.pr.map fun q=>q.df.val)):=by
  kernel_rfl
theorem runG1 (w:World):(HandSHeadRun.wholeF (fun p=>HandSHeadRun.stepQ (HandSHeadRun.denQ HandSHeadRun.tabQ) p w) HandSHeadRun.fenceQ 9000 RR.prog).map (fun x=>(HandSHeadRun.seenQ qv names (importedModules RR.prog.main.body) (fun s=>PySem.W.xlAt qv [] s && PySem.W.recOk RR.toRowW.records s) x.2.abs,faL.all fun f=>f.ok (He.frT (HandSHeadRun.getT x.2) (asA (HandSHeadRun.getT x.2) 4))))=some ((PySem.W.openGood qv names,true)):=by
  kernel_rfl
theorem runG2 (w:World):(HandSHeadRun.wholeF (fun p=>HandSHeadRun.stepQ (HandSHeadRun.denQ HandSHeadRun.tabQ) p w) HandSHeadRun.fenceQ 9000 RR.prog).map (fun x=>lyL.toLY.ok (HandSHeadRun.getT x.2) (He.frT (HandSHeadRun.getT x.2) (asA (HandSHeadRun.getT x.2) 4)))=some (true):=by
  kernel_rfl
theorem runG3 (w:World):(HandSHeadRun.wholeF (fun p=>HandSHeadRun.stepQ (HandSHeadRun.denQ HandSHeadRun.tabQ) p w) HandSHeadRun.fenceQ 9000 RR.prog).map (fun x=>(fnL.all fun d=>d.ok (He.frT (HandSHeadRun.getT x.2) (asA (HandSHeadRun.getT x.2) 4)),fnL.map fun d=>He.fnW (He.frT (HandSHeadRun.getT x.2) (asA (HandSHeadRun.getT x.2) 4)) d.at_))=some ((true,fnL.map He.DefD.val)):=by
  kernel_rfl
theorem runA (w:World):(HandSHeadRun.wholeF (fun p=>HandSHeadRun.stepQ (HandSHeadRun.denQ HandSHeadRun.tabQ) p w) HandSHeadRun.fenceQ 9000 RR.prog).map (fun x=>(HandSHeadRun.looksF RR.prog x.1.heap x.2.abs,HandSHeadRun.seenQ qv names (importedModules RR.prog.main.body) (fun s=>PySem.W.xlAt qv [] s && PySem.W.recOk RR.toRowW.records s) x.2.abs,ob x.2))=some (true,PySem.W.openGood qv names,hk.val w):=
  ai2 (runG0 w) (runG1 w) (runG2 w) (runG3 w) fun x e0 e1 e2 e3=>aly (congrArg (fun z=>z.1) e0) (congrArg (fun z=>z.1) e1) (congrArg (fun z=>z.2.1) e0) e2 (congrArg (fun z=>z.2) e1) (congrArg (fun z=>z.1) e3) (congrArg (fun z=>z.2) e3) (congrArg (fun z=>z.2.2.1) e0) (congrArg (fun z=>z.2.2.2) e0)
theorem run (w:World):HandSHeadRun.RunEqI RR qv hk ob 9000 names w:=runA w
end
end K14
set_option maxHeartbeats 2000000
namespace DL
open PySem PySem.Spec PyProof.Rows L2
theorem mulW {i j:Int} {B C:Nat} (h1:i.natAbs < 2 ^ B) (h2:j.natAbs < 2 ^ C) (h:B + C<=900000):CMulW i j:=wide_mul (a:=B + 1) (b:=C + 1) (Nat.lt_of_lt_of_le h1 (Nat.pow_le_pow_right (by decide) (by omega))) (Nat.lt_of_lt_of_le h2 (Nat.pow_le_pow_right (by decide) (by omega))) (by omega) (by omega) (by omega)
theorem nbd {B:Nat} {q:Rat} (h:Nb B q):(q.den:Int).natAbs < 2 ^ B:=by simpa using h.d
theorem aif {p q:Rat} (hp:Nb 3900 p) (hq:Nb 3900 q):((p.den:Int) * (q.den:Int)).natAbs < 2 ^ 8000:=by
  rw [Int.natAbs_mul]
  refine Nat.lt_of_lt_of_le (Nat.mul_lt_mul'' (nbd hp) (nbd hq)) ?_
  rw [<- Nat.pow_add]
  exact Nat.pow_le_pow_right (by decide) (by decide)
theorem ahX {p q:Rat} (e:(p.den:Int)=q.den):p + q=Rat.divInt (p.num + q.num) p.den:=by
  have h0:=den_pos p
  rw [<- af7,<- e,<- Int.add_mul,Rat.divInt_eq_divInt_iff (by exact Int.ne_of_gt (Int.mul_pos h0 h0)) (by omega),Int.mul_assoc]
def low (c:Nat):Bool:=decide (c∈("abcdefghijklmnopqrstuvwxyz":Str).cps.toList)
def nameOk (z:Str):Bool:=decide (1<=z.length) && decide (z.length<=5) && z.cps.toList.all low
def nameB:D->Bool
  | .str z=>nameOk z
  | _=>false
def lowD:D->D
  | .str s=>.bl (match s.cps.toList with | [c]=>low c | _=>false)
  | _=>.bl false
def rowX (n:Nat) (x:Nat->D):D:=.lst ((List.range n).map x)
def tabX (n:Nat) (x:Nat->Nat->D):D:=.lst ((List.range n).map fun i=>rowX n (x i))
def tabD (n:Nat) (f:Nat->Nat->Rat):D:=tabX n fun i j=>rD (f i j)
structure GoodF (n:Nat) (f:Nat->Nat->Rat):Prop where
  pos:∀ i j,i < n->j < n->0<=f i j
  dia:∀ i,i < n->f i i=0
  tri:∀ i j k,i < n->j < n->k < n->f i j<=f i k + f k j
def leastQ (p q:Rat):Rat:=if q < p then q else p
def stepF (f:Nat->Nat->Rat) (m:Nat):Nat->Nat->Rat:=fun i j=>leastQ (f i j) (f i m + f m j)
def closeF (f:Nat->Nat->Rat):Nat->Nat->Nat->Rat
  | 0=>f
  | m + 1=>stepF (closeF f m) m
theorem ajw (p q:Rat):leastQ p q<=p:=by
  unfold leastQ
  split
  · grind
  · grind
theorem ajv (p q:Rat):leastQ p q<=q:=by
  unfold leastQ
  split
  · grind
  · grind
theorem least_or (p q:Rat):leastQ p q=p\/leastQ p q=q:=by
  unfold leastQ
  split
  · exact .inr rfl
  · exact .inl rfl
structure UpTo (n m:Nat) (g:Nat->Nat->Rat):Prop where
  pos:∀ i j,i < n->j < n->0<=g i j
  dia:∀ i,i < n->g i i=0
  tri:∀ i j k,i < n->j < n->k < m->g i j<=g i k + g k j
theorem ali {n m:Nat} {g:Nat->Nat->Rat} (h:UpTo n m g) (hm:m < n):UpTo n (m + 1) (stepF g m):=by
  have col:∀ i,i < n->stepF g m i m=g i m:=fun i hi=>by
    unfold stepF leastQ
    have:=h.dia m hm
    split
    · rename_i z;grind
    · rfl
  have row:∀ j,j < n->stepF g m m j=g m j:=fun j hj=>by
    unfold stepF leastQ
    have:=h.dia m hm
    split
    · rename_i z;grind
    · rfl
  refine ⟨fun i j hi hj=>?_,fun i hi=>?_,fun i j k hi hj hk=>?_⟩
  · have h1:=h.pos i j hi hj
    have h2:=h.pos i m hi hm
    have h3:=h.pos m j hm hj
    unfold stepF
    rcases least_or (g i j) (g i m + g m j) with e | e<;>rw [e]
    · exact h1
    · grind
  · have h1:=h.dia i hi
    have h2:=h.pos i m hi hm
    have h3:=h.pos m i hm hi
    unfold stepF leastQ
    split
    · grind
    · exact h1
  · have l1:=ajw (g i j) (g i m + g m j)
    have l2:=ajv (g i j) (g i m + g m j)
    by_cases e:k=m
    · subst e
      rw [col i hi,row j hj]
      exact l2
    · have hk':k < m:=by omega
      have kn:k < n:=by omega
      show leastQ (g i j) (g i m + g m j)<=leastQ (g i k) (g i m + g m k) + leastQ (g k j) (g k m + g m j)
      have t1:=h.tri i j k hi hj hk'
      have t2:=h.tri m j k hm hj hk'
      have t3:=h.tri i m k hi hm hk'
      have p1:=h.pos m k hm kn
      have p2:=h.pos k m kn hm
      rcases least_or (g i k) (g i m + g m k) with e1 | e1<;>rcases least_or (g k j) (g k m + g m j) with e2 | e2<;>rw [e1,e2]<;>grind
theorem aim {n:Nat} {f:Nat->Nat->Rat} (h1:∀ i j,i < n->j < n->0<=f i j) (h2:∀ i,i < n->f i i=0):∀ m,m<=n->UpTo n m (closeF f m)
  | 0,_=>⟨h1,h2,fun _ _ _ _ _ z=>absurd z (by omega)⟩
  | m + 1,h=>ali (aim h1 h2 m (by omega)) (by omega)
theorem aiI {n:Nat} {f:Nat->Nat->Rat} (h1:∀ i j,i < n->j < n->0<=f i j) (h2:∀ i,i < n->f i i=0):GoodF n (closeF f n):=
  let u:=aim h1 h2 n (Nat.le_refl _)
  ⟨u.pos,u.dia,u.tri⟩
def bitsF:Nat->Nat
  | 0=>40
  | m + 1=>2 * bitsF m + 1
theorem ado {n:Nat} {f:Nat->Nat->Rat} (h:∀ i j,i < n->j < n->Nb 40 (f i j)):∀ m,m<=n->∀ i j,i < n->j < n->Nb (bitsF m) (closeF f m i j)
  | 0,_,i,j,hi,hj=>h i j hi hj
  | m + 1,hm,i,j,hi,hj=>by
    have a:=ado h m (by omega) i j hi hj
    have b:=ado h m (by omega) i m hi (by omega)
    have c:=ado h m (by omega) m j (by omega) hj
    show Nb (2 * bitsF m + 1) (leastQ (closeF f m i j) (closeF f m i m + closeF f m m j))
    rcases least_or (closeF f m i j) (closeF f m i m + closeF f m m j) with e | e<;>rw [e]
    · exact a.mono (by omega)
    · exact (ag0 b c).mono (by omega)
section
variable {g:TDG} {tt:TDT} {te:TD} {vs:List Nat} {Q:DV->DSt->Prop}
theorem ahy (f:Nat->D) (S:DSt) {n:Nat} (hl:n<=szl)
    (step:∀ i,i < n->∀ (M:D->DSt->Prop) (A:DSt->Prop),M (f i) S->g (.int (i:Int)) S fun s1=>tt s1 (fun b s2=>Br b (te s2 (fun x s3=>match pubV x with
      | .d y=>M y (wipeD s3 vs)
      | _=>False) fun _ _ _=>False) (A (wipeD s2 vs))) fun _ _ _=>False) (q:Q (.own (.lst ((List.range n).map f))) S):dLcL g tt te vs Q (intsFrom 0 n) [] S:=by
  refine agk (fun d=>match d with | .int i=>f i.toNat | _=>.non) S (by rw [ade];exact hl) (fun d hd M A m=>?_) ?_
  · obtain ⟨i,hi,rfl⟩:=adM hd
    have e:(0:Int) + (i:Int)=(i:Int):=by omega
    rw [e] at m ⊢
    exact step i hi M A (by simpa using m)
  · rw [aib]
    have e:(List.range n).map (fun (i:Nat)=>(match D.int ((0:Int) + (i:Int)) with | .int i=>f i.toNat | _=>.non))=(List.range n).map f:=List.map_congr_left fun i _=>by
      show f ((0:Int) + (i:Int)).toNat=f i
      congr 1;omega
    rw [e];exact q
theorem ah4 (R:Nat->D->Prop) (S:DSt) {n:Nat} (hl:n<=szl)
    (step:∀ i,i < n->∀ (M:D->DSt->Prop) (A:DSt->Prop),(∀ y,R i y->M y S)->g (.int (i:Int)) S fun s1=>tt s1 (fun b s2=>Br b (te s2 (fun x s3=>match pubV x with
      | .d y=>M y (wipeD s3 vs)
      | _=>False) fun _ _ _=>False) (A (wipeD s2 vs))) fun _ _ _=>False) (q:∀ f:Nat->D,(∀ i,i < n->R i (f i))->Q (.own (.lst ((List.range n).map f))) S):dLcL g tt te vs Q (intsFrom 0 n) [] S:=by
  have go:∀ (k:Nat) (f:Nat->D) (acc:List D) (i:Nat),i + k=n->acc=(List.range i).map f->(∀ j,j < i->R j (f j))->dLcL g tt te vs Q (intsFrom (i:Int) k) acc S:=by
    intro k
    induction k with
    | zero=>
      intro f acc i h1 h2 h3
      show dLcL g tt te vs Q [] acc S
      rw [ae0,h2]
      have e:i=n:=by omega
      subst e
      exact q f h3
    | succ k ih=>
      intro f acc i h1 h2 h3
      show dLcL g tt te vs Q (.int (i:Int)::intsFrom ((i:Int) + 1) k) acc S
      rw [adN]
      refine step i (by omega) (fun y s=>acc.length < szl/\dLcL g tt te vs Q (intsFrom ((i:Int) + 1) k) (acc++[y]) s) (fun s=>dLcL g tt te vs Q (intsFrom ((i:Int) + 1) k) acc s) (fun y hy=>⟨by rw [h2,List.length_map,List.length_range];omega,?_⟩)
      have e:((i:Int) + 1)=((i + 1:Nat):Int):=by omega
      rw [e]
      refine ih (fun j=>if j=i then y else f j) (acc++[y]) (i + 1) (by omega) ?_ (fun j hj=>?_)
      · rw [List.range_succ,List.map_append,h2]
        congr 1
        · exact List.map_congr_left fun j hj=>by
            have:=List.mem_range.mp hj
            show f j=if j=i then y else f j
            rw [if_neg (by omega)]
        · show [y]=[if i=i then y else f i]
          rw [if_pos rfl]
      · by_cases ej:j=i
        · subst ej
          show R j (if j=j then y else f j)
          rw [if_pos rfl];exact hy
        · show R j (if j=i then y else f j)
          rw [if_neg ej];exact h3 j (by omega)
  exact go n (fun _=>.non) [] 0 (by omega) rfl (fun j hj=>absurd hj (by omega))
end
theorem ald {f:Nat->D} {n i:Nat} (h:i < n):atI ((List.range n).map f) (i:Int)=some (f i):=ale (by rw [List.getElem?_range h])
theorem ag6 {n i:Nat} {x:Nat->Nat->D} {Q:DV->Prop} (h:i < n) (q:Q (.d (rowX n (x i)))):ixR (.d (tabX n x)) (.d (.int (i:Int))) Q:=agl (ds:=(List.range n).map fun i=>rowX n (x i)) rfl (ald h) q
theorem ahA {n i:Nat} {x:Nat->D} {Q:DV->Prop} (h:i < n) (q:Q (.d (x i))):ixR (.d (rowX n x)) (.d (.int (i:Int))) Q:=agl (ds:=(List.range n).map x) rfl (ald h) q
theorem aiM {n:Nat} {x:Nat->Nat->D} {Q:DV->Prop} (q:Q (.d (.int (n:Int)))):lenR [.d (tabX n x)] Q:=aed (ds:=(List.range n).map fun i=>rowX n (x i)) rfl (by rw [List.length_map,List.length_range];exact q)
theorem ajc {kvs:List (Key × D)} {k:Key} {d:D} (h:valD kvs k=none):putKD kvs k d=kvs++[(k,d)]:=by
  unfold putKD
  rw [if_neg]
  intro z
  obtain ⟨p,hp,e⟩:=List.any_eq_true.mp z
  have:∀ l:List (Key × D),p∈l->valD l k≠none:=by
    intro l
    induction l with
    | nil=>intro h;cases h
    | cons q r ih=>
      intro h
      by_cases e2:q.1=k
      · rw [afX e2];simp
      · rw [afY e2]
        rcases List.mem_cons.mp h with h | h
        · subst h;exact absurd (of_decide_eq_true e) e2
        · exact ih h
  exact this kvs hp h
theorem anr {xs:List D} {i:Nat} {x:D} (h:xs[i]?=some x):atI xs (i:Int)=some x:=by
  have:=ale (f:=fun d:D=>d) h
  rw [List.map_id'] at this
  exact this
theorem amu {xs:List D} {x:D}:atI (x::xs) 0=some x:=anr (i:=0) rfl
def leS (a b:Str):Prop:=ltCps b.cps.toList a.cps.toList=false
theorem ad0 {a b:Str}:leS a b ↔ a.cps.toList<=b.cps.toList:=by
  unfold leS
  rw [ltCps_eq]
  rw [decide_eq_false_iff_not,List.not_lt]
theorem ah2 (a:Str):leS a a:=ad0.mpr (List.le_refl _)
theorem ajx {a b c:Str} (h:leS a b) (h2:leS b c):leS a c:=ad0.mpr (List.le_trans (ad0.mp h) (ad0.mp h2))
theorem akv {a b:Str} (h:leS a b) (h2:leS b a):a=b:=by
  have e:=List.le_antisymm (ad0.mp h) (ad0.mp h2)
  cases a with | mk x=>cases b with | mk y=>
  have:x=y:=Array.toList_inj.mp e
  rw [this]
theorem agU:∀ (p:Str) (l:List Str),risingS p l=true->(p::l).Pairwise leS
  | p,[],_=>List.pairwise_singleton ..
  | p,x::r,h=>by
    have h0:(!ltCps x.cps.toList p.cps.toList && risingS x r)=true:=h
    rw [Bool.and_eq_true] at h0
    have h1:leS p x:=by unfold leS;simpa using h0.1
    have h2:=agU x r h0.2
    refine List.pairwise_cons.mpr ⟨fun y hy=>?_,h2⟩
    rcases List.mem_cons.mp hy with rfl | hy
    · exact h1
    · exact ajx h1 ((List.pairwise_cons.mp h2).1 y hy)
theorem agG {l:List Str} (h:sortedS l=true):l.Pairwise leS:=by
  cases l with
  | nil=>exact .nil
  | cons x r=>exact agU x r h
theorem aja:∀ {a b:List Str},a.Pairwise leS->b.Pairwise leS->a.Perm b->a=b
  | [],b,_,_,h=>(List.nil_perm.mp h).symm ▸ rfl
  | x::r,[],_,_,h=>by have:=h.length_eq;simp at this
  | x::r,y::t,h1,h2,h=>by
    obtain ⟨p1,p2⟩:=List.pairwise_cons.mp h1
    obtain ⟨q1,q2⟩:=List.pairwise_cons.mp h2
    have e:x=y:=by
      refine akv ?_ ?_
      · rcases List.mem_cons.mp (h.mem_iff.mpr (List.mem_cons_self ..):y∈x::r) with e | m
        · rw [e];exact ah2 _
        · exact p1 y m
      · rcases List.mem_cons.mp (h.mem_iff.mp (List.mem_cons_self ..):x∈y::t) with e | m
        · rw [e];exact ah2 _
        · exact q1 x m
    subst e
    rw [aja p2 q2 ((List.perm_cons x).mp h)]
theorem aiO {a b:List Str} (h1:sortedS a=true) (h2:sortedS b=true) (h:a.Perm b):a=b:=aja (agG h1) (agG h2) h
def kvD (ks:List Str) (val:Str->D):List (Key × D):=ks.map fun z=>(Sum.inr z,val z)
theorem agm (ks:List Str) (val:Str->D):(kvD ks val).map (·.1)=ks.map Sum.inr:=by unfold kvD;rw [List.map_map];rfl
theorem ahD (ks:List Str) (val:Str->D):(kvD ks val).length=ks.length:=by unfold kvD;rw [List.length_map]
theorem ahC {ks:List Str} {val:Str->D} {z:Str}:valD (kvD ks val) (.inr z)=if z∈ks then some (val z) else none:=by
  induction ks with
  | nil=>rfl
  | cons y r ih=>
    show valD ((Sum.inr y,val y)::kvD r val) (.inr z)=_
    by_cases e:y=z
    · subst e
      rw [afX rfl,if_pos (List.mem_cons_self ..)]
    · rw [afY (fun h=>e (Sum.inr.inj h)),ih]
      by_cases m:z∈r
      · rw [if_pos m,if_pos (List.mem_cons_of_mem _ m)]
      · rw [if_neg m,if_neg (fun h=>by rcases List.mem_cons.mp h with h | h;exact e h.symm;exact m h)]
theorem al4 (a b:List Str) (val:Str->D):kvD (a++b) val=kvD a val++kvD b val:=by unfold kvD;rw [List.map_append]
def plF (val:Str->D) (n:Nat):List D->List Str->Option D
  | _,[]=>none
  | tk,z::r=>if numD 0 ((n:Int) - 1) (val z) && !inF (val z) tk then plF val n (tk++[val z]) r else some (val z)
theorem alG {val:Str->D} {n:Nat} {tk:List D} {z:Str} {r:List Str} (h1:numD 0 ((n:Int) - 1) (val z)=true) (h2:inF (val z) tk=false):plF val n tk (z::r)=plF val n (tk++[val z]) r:=by
  show (if numD 0 ((n:Int) - 1) (val z) && !inF (val z) tk then plF val n (tk++[val z]) r else some (val z))=_
  rw [h1,h2];rfl
theorem ajh {val:Str->D} {n:Nat} {tk:List D} {z:Str} {r:List Str} (h:numD 0 ((n:Int) - 1) (val z)=false\/inF (val z) tk=true):plF val n tk (z::r)=some (val z):=by
  show (if numD 0 ((n:Int) - 1) (val z) && !inF (val z) tk then plF val n (tk++[val z]) r else some (val z))=_
  rcases h with h | h<;>rw [h]
  · rfl
  · rw [Bool.not_true,Bool.and_false];rfl
theorem aju (σ:L2.St) (Q:List (V × V)->Hp->Prop):∀ (cs:List (Str × Int)) (H:Hp) (hq:Q (cs.map fun c=>(V.str c.1,V.int c.2)) H),tPairs (cs.map fun c=>(tC (.str c.1),tC (.int c.2))) σ H Q:=by
  intro cs
  induction cs generalizing Q with
  | nil=>intro H hq;exact hq
  | cons c r ih=>intro H hq;exact ih _ H hq
theorem ag9 {K:PySem.W.Frag} {G:Hp}:∀ cs:List (Str × Int),FAll K G (cs.map fun c=>((Sum.inr c.1:Key),V.int c.2)) (cs.map fun c=>((Sum.inr c.1:Key),D.int c.2))
  | []=>.nil
  | c::r=>.cons (.int _) (ag9 r)
theorem ahK {X:Cx} {W:WX} {pos:Pos} {keys:List (Option Expr)} {values:List Expr} {cs:List (Str × Int)} (h:PPs X pos keys values (cs.map fun c=>(tC (.str c.1),tC (.int c.2)))) (hall:keys.all (·.isSome)=true) (hl:keys.length=values.length) (h0:keys≠[]) (h15:keys.length<=15) (c15:cs.length<=15) (hm:mergeD [] (cs.map fun c=>((Sum.inr c.1:Key),D.int c.2))=cs.map fun c=>((Sum.inr c.1:Key),D.int c.2)) :
    DE X W (.Dict keys values pos) (dC (.dk (cs.map fun c=>((Sum.inr c.1:Key),D.int c.2)))):=by
  refine aa6 (ajj (pe_disp h hall hl h0 h15)) fun σ H R ⟨G,so,sl,Q,E,rep,q,hq,hx⟩ p n=>?_
  refine aju σ _ cs _ ⟨upd_same,cs.map fun c=>((Sum.inr c.1:Key),V.int c.2),by rw [List.map_map];rfl,by rw [List.length_map];exact c15,p,_,upd_same,trivial,fun od=>?_⟩
  rw [upd_upd,upd_upd]
  have gl:G p=none:=rep.h.ex.free n
  have sl':so.Nt p:=rep.h.there n
  have fa:=FAll.merge (ag9 (K:=X.K) (G:=G) cs) .nil
  rw [hm] at fa
  refine hq _ _ (upd G p _) (.d (.dk _)) sl ((Post.refl rep).thenV ⟨Ex.new gl,ae5 rep.h gl sl',fun b o eb sb=>?_,fun b n1 g sb=>?_,.dk upd_same (fa.mono (Ex.new gl)),fun _ _ z=>(nomatch z),fun _ z=>(nomatch z)⟩) q
  · rw [upd_ne (ne_of_none eb n)];exact eb
  · rw [upd_ne (fun z=>n1 (by rw [z];exact n))];exact g
theorem ad3 {X:Cx} {W:WX} {pos:Pos}:DE X W (.Dict [] [] pos) (dC (.dk [])):=by
  refine aa6 (ajj pe_dnewK) fun σ H R ⟨G,so,sl,Q,E,rep,q,hq,hx⟩ p n=>⟨p,_,upd_same,trivial,fun od=>?_⟩
  rw [upd_upd]
  have gl:G p=none:=rep.h.ex.free n
  have sl':so.Nt p:=rep.h.there n
  refine hq _ _ (upd G p _) (.d (.dk _)) sl ((Post.refl rep).thenV ⟨Ex.new gl,ae5 rep.h gl sl',fun b o eb sb=>?_,fun b n1 g sb=>?_,.dk upd_same .nil,fun _ _ z=>(nomatch z),fun _ z=>(nomatch z)⟩) q
  · rw [upd_ne (ne_of_none eb n)];exact eb
  · rw [upd_ne (fun z=>n1 (by rw [z];exact n))];exact g
def Ln (L B:Nat) (q:Rat):Prop:=∃ a:Nat,q=mkRat (a:Int) L/\a<=B
theorem Ln.mono {L B C:Nat} {q:Rat} (h:Ln L B q) (le:B<=C):Ln L C q:=let ⟨a,e,l⟩:=h;⟨a,e,Nat.le_trans l le⟩
theorem Ln.add {L B C:Nat} {p q:Rat} (hL:L≠0) (h:Ln L B p) (h2:Ln L C q):Ln L (B + C) (p + q):=by
  obtain ⟨a,rfl,ha⟩:=h
  obtain ⟨b,rfl,hb⟩:=h2
  refine ⟨a + b,?_,by omega⟩
  rw [Rat.mkRat_add_mkRat _ _ hL hL,<- Int.add_mul,Rat.mkRat_mul_right hL]
  rfl
theorem Ln.nb {L B k:Nat} {q:Rat} (hL:L≠0) (h:Ln L B q) (h1:B < 2 ^ k) (h2:L < 2 ^ k):Nb k q:=by
  obtain ⟨a,rfl,ha⟩:=h
  refine ⟨?_,?_⟩
  · rw [Rat.num_mkRat]
    split
    · exact Nat.pow_pos (by decide)
    · refine Nat.lt_of_le_of_lt ?_ h1
      refine Nat.le_trans ?_ ha
      have:((a:Int) / ((L.gcd (a:Int).natAbs:Nat):Int)).natAbs<=a:=by
        rw [Int.natAbs_natCast,<- Int.natCast_ediv,Int.natAbs_natCast]
        exact Nat.div_le_self ..
      exact this
  · rw [Rat.den_mkRat,if_neg hL]
    exact Nat.lt_of_le_of_lt (Nat.div_le_self ..) h2
theorem Ln.nn {L B:Nat} {q:Rat} (h:Ln L B q):0<=q:=by
  obtain ⟨a,rfl,ha⟩:=h
  rw [<- Rat.num_nonneg,Rat.num_mkRat]
  split
  · decide
  · exact Int.ediv_nonneg (by omega) (by omega)
theorem alR {L B:Nat}:Ln L B 0:=⟨0,(Rat.zero_mkRat L).symm,Nat.zero_le _⟩
theorem aku {L B:Nat} {p q:Rat} (h:Ln L B p) (h2:Ln L B q):Ln L B (leastQ p q):=by
  unfold leastQ
  split
  · exact h2
  · exact h
theorem ain {L B n:Nat} {f:Nat->Nat->Rat} (hL:L≠0) (h:∀ i j,i < n->j < n->Ln L B (f i j)):∀ m,m<=n->∀ i j,i < n->j < n->Ln L (B * 2 ^ m) (closeF f m i j)
  | 0,_,i,j,hi,hj=>(h i j hi hj).mono (by omega)
  | m + 1,hm,i,j,hi,hj=>by
    have ih:=ain hL h m (by omega)
    show Ln L (B * 2 ^ (m + 1)) (stepF (closeF f m) m i j)
    have e:B * 2 ^ (m + 1)=B * 2 ^ m + B * 2 ^ m:=by rw [Nat.pow_succ,Nat.mul_comm (2 ^ m) 2,Nat.mul_left_comm];omega
    rw [e]
    exact aku ((ih i j hi hj).mono (by omega)) ((ih i m hi (by omega)).add hL (ih m j (by omega) hj))
section
variable {g:TDG} {tt:TDT} {te:TD} {vs:List Nat} {Q:DV->DSt->Prop}
theorem agi (h:Nat->D) (R:Nat->D->Prop) (S:DSt) {n:Nat} (hl:n<=szl)
    (step:∀ i,i < n->∀ (M:D->DSt->Prop) (A:DSt->Prop),(∀ y,R i y->M y S)->g (h i) S fun s1=>tt s1 (fun b s2=>Br b (te s2 (fun x s3=>match pubV x with
      | .d y=>M y (wipeD s3 vs)
      | _=>False) fun _ _ _=>False) (A (wipeD s2 vs))) fun _ _ _=>False) (q:∀ f:Nat->D,(∀ i,i < n->R i (f i))->Q (.own (.lst ((List.range n).map f))) S):dLcL g tt te vs Q ((List.range n).map h) [] S:=by
  have go:∀ (k:Nat) (f:Nat->D) (acc:List D) (i:Nat),i + k=n->acc=(List.range i).map f->(∀ j,j < i->R j (f j))->dLcL g tt te vs Q ((List.range' i k).map h) acc S:=by
    intro k
    induction k with
    | zero=>
      intro f acc i h1 h2 h3
      show dLcL g tt te vs Q [] acc S
      rw [ae0,h2]
      have e:i=n:=by omega
      subst e
      exact q f h3
    | succ k ih=>
      intro f acc i h1 h2 h3
      show dLcL g tt te vs Q (h i::(List.range' (i + 1) k).map h) acc S
      rw [adN]
      refine step i (by omega) (fun y s=>acc.length < szl/\dLcL g tt te vs Q ((List.range' (i + 1) k).map h) (acc++[y]) s) (fun s=>dLcL g tt te vs Q ((List.range' (i + 1) k).map h) acc s) (fun y hy=>⟨by rw [h2,List.length_map,List.length_range];omega,?_⟩)
      refine ih (fun j=>if j=i then y else f j) (acc++[y]) (i + 1) (by omega) ?_ (fun j hj=>?_)
      · rw [List.range_succ,List.map_append,h2]
        congr 1
        · exact List.map_congr_left fun j hj=>by
            have:=List.mem_range.mp hj
            show f j=if j=i then y else f j
            rw [if_neg (by omega)]
        · show [y]=[if i=i then y else f i]
          rw [if_pos rfl]
      · show R j (if j=i then y else f j)
        by_cases e:j=i
        · subst e;rw [if_pos rfl];exact hy
        · rw [if_neg e];exact h3 j (by omega)
  have:=go n (fun _=>.non) [] 0 (by omega) rfl (fun j hj=>absurd hj (by omega))
  rw [List.range_eq_range']
  exact this
theorem ajy (h f:Nat->D) (S:DSt) {n:Nat} (hl:n<=szl)
    (step:∀ i,i < n->∀ (M:D->DSt->Prop) (A:DSt->Prop),M (f i) S->g (h i) S fun s1=>tt s1 (fun b s2=>Br b (te s2 (fun x s3=>match pubV x with
      | .d y=>M y (wipeD s3 vs)
      | _=>False) fun _ _ _=>False) (A (wipeD s2 vs))) fun _ _ _=>False) (q:Q (.own (.lst ((List.range n).map f))) S):dLcL g tt te vs Q ((List.range n).map h) [] S:=
  agi h (fun i y=>y=f i) S hl (fun i hi M A hM=>step i hi M A (hM _ rfl)) (fun f' hf=>by
    have e:(List.range n).map f'=(List.range n).map f:=List.map_congr_left fun i hi=>hf i (List.mem_range.mp hi)
    rw [e];exact q)
end
theorem afH {m:Int} {k B:Nat} (h0:0<=m) (h1:m<=(B:Int)) (c:Nat) (hc:k * c=60):Ln 60 (B * 60) (Rat.divInt m (k:Int)):=by
  have hk:k≠0:=fun e=>by subst e;omega
  have hc0:c≠0:=fun e=>by subst e;omega
  refine ⟨m.toNat * c,?_,?_⟩
  · rw [Rat.divInt_ofNat]
    have e:mkRat m k=mkRat (m * (c:Int)) (k * c):=(Rat.mkRat_mul_right hc0).symm
    rw [e,hc]
    congr 1
    rw [Int.natCast_mul,Int.toNat_of_nonneg h0]
  · have hc60:c<=60:=by
      rw [<- hc];exact Nat.le_mul_of_pos_left _ (Nat.pos_of_ne_zero hk)
    exact Nat.mul_le_mul (by omega) hc60
theorem am0 {n:Int} {B:Nat} (h0:0<=n) (h1:n<=(B:Int)):Ln 60 (B * 60) (n:Rat):=by
  have:=afH (k:=1) h0 h1 60 rfl
  have e:Rat.divInt n ((1:Nat):Int)=(n:Rat):=aer (n:Rat)
  rw [e] at this;exact this
theorem alS {m k:Int} {B:Nat} (h0:0<=m) (h1:m<=(B:Int)) (k1:1<=k) (k2:k<=5):Ln 60 (B * 60) (Rat.divInt m k):=by
  have hk:k=1\/k=2\/k=3\/k=4\/k=5:=by omega
  rcases hk with rfl | rfl | rfl | rfl | rfl
  · exact afH (k:=1) h0 h1 60 rfl
  · exact afH (k:=2) h0 h1 30 rfl
  · exact afH (k:=3) h0 h1 20 rfl
  · exact afH (k:=4) h0 h1 15 rfl
  · exact afH (k:=5) h0 h1 12 rfl
theorem g2 {i j:Nat} {x y:D} {s s':DSt} {Q:DSt->Prop} (e:((s.set i (some (.d x))).set j (some (.d y)))=s') (h:Q s'):gConsD (gD i) (gConsD (gD j) gNilD) [x,y] s Q:=by subst e;exact h
structure Vl where
  q:Rat
  bare:Bool
def Vl.d (v:Vl):D:=if v.bare then .int v.q.num else rD v.q
inductive Itm where
  | tx (z:Str) | vl (x:Vl)
inductive Lf where
  | road (ride:Bool) (ly a b:Str) (v:Vl)
  | place (x a:Str) (v w:Vl)
  | same (a b:Str)
  | forget (a:Str)
  | cap (ly:Str) (v:Vl)
  | scale (ly:Str) (v:Vl)
  | turn
  | round (ly:Str)
def Lf.word:Lf->Str
  | .road r _ _ _ _=>if r then "ride" else "road"
  | .place ..=>"place"
  | .same ..=>"same"
  | .forget ..=>"forget"
  | .cap ..=>"cap"
  | .scale ..=>"scale"
  | .turn=>"turn"
  | .round ..=>"round"
def Lf.rest:Lf->List Itm
  | .road _ ly a b v=>[.tx ly,.tx a,.tx b,.vl v]
  | .place x a v w=>[.tx x,.tx a,.vl v,.vl w]
  | .same a b=>[.tx a,.tx b]
  | .forget a=>[.tx a]
  | .cap ly v=>[.tx ly,.vl v]
  | .scale ly v=>[.tx ly,.vl v]
  | .turn=>[]
  | .round ly=>[.tx ly]
structure WOk (z:Str):Prop where
  len:z.length<=30
  ok:okS z
section
variable {g:TDG} {tt:TDT} {te:TD} {vs:List Nat} {Q:DV->DSt->Prop}
theorem agj {α:Type} (h f:α->D) (S:DSt) {xs:List α} (hl:xs.length<=szl)
    (step:∀ x∈xs,∀ (M:D->DSt->Prop) (A:DSt->Prop),M (f x) S->g (h x) S fun s1=>tt s1 (fun b s2=>Br b (te s2 (fun x s3=>match pubV x with
      | .d y=>M y (wipeD s3 vs)
      | _=>False) fun _ _ _=>False) (A (wipeD s2 vs))) fun _ _ _=>False) (q:Q (.own (.lst (xs.map f))) S):dLcL g tt te vs Q (xs.map h) [] S:=by
  have go:∀ (dn r:List α),dn++r=xs->dLcL g tt te vs Q (r.map h) (dn.map f) S:=by
    intro dn r
    induction r generalizing dn with
    | nil=>
      intro e
      rw [List.append_nil] at e
      show dLcL g tt te vs Q [] (dn.map f) S
      rw [ae0,e];exact q
    | cons x r ih=>
      intro e
      show dLcL g tt te vs Q (h x::r.map h) (dn.map f) S
      rw [adN]
      have hl2:dn.length < szl:=by
        have:=congrArg List.length e
        rw [List.length_append,List.length_cons] at this
        omega
      refine step x (by rw [<- e];simp) (fun y s=>(dn.map f).length < szl/\dLcL g tt te vs Q (r.map h) (dn.map f++[y]) s) (fun s=>dLcL g tt te vs Q (r.map h) (dn.map f) s) ⟨by rw [List.length_map];exact hl2,?_⟩
      have:=ih (dn++[x]) (by rw [<- e];simp)
      rw [List.map_append] at this
      exact this
  exact go [] xs rfl
end
theorem ajM (g:Str) (hg:okS g) (hl:g.length<=1):∀ (ws:List Str) (acc:Array Nat),(∀ z∈ws,WOk z)->(∀ c∈acc.toList,c < 0x110000)->
    (∀ c∈(ws.foldl (fun acc p=>acc++g.cps++p.cps) acc).toList,c < 0x110000)/\(ws.foldl (fun acc p=>acc++g.cps++p.cps) acc).size<=acc.size + 31 * ws.length
  | [],acc,_,h=>⟨h,by simp⟩
  | w::ws,acc,hw,h=>by
    have w1:=hw w (List.mem_cons_self ..)
    have ih:=ajM g hg hl ws (acc++g.cps++w.cps) (fun z hz=>hw z (List.mem_cons_of_mem _ hz)) (fun c hc=>by
      simp only [Array.toList_append,List.mem_append] at hc
      rcases hc with (hc | hc) | hc
      · exact h c hc
      · exact hg c hc
      · exact w1.ok c hc)
    refine ⟨ih.1,Nat.le_trans ih.2 ?_⟩
    have l1:w.cps.size<=30:=w1.len
    have l2:g.cps.size<=1:=hl
    simp only [Array.size_append,List.length_cons]
    omega
theorem al7 {ws:List Str} (h:∀ z∈ws,WOk z):okS (Txt.join " " ws)/\(Txt.join " " ws).length<=31 * ws.length:=by
  cases ws with
  | nil=>
    have e:Txt.join " " []=Str.empty:=rfl
    rw [e]
    exact ⟨fun c hc=>(by cases hc),Nat.le_refl _⟩
  | cons w ws=>
    have w1:=h w (List.mem_cons_self ..)
    have:=ajM " " (acZ " ") (by decide) ws w.cps (fun z hz=>h z (List.mem_cons_of_mem _ hz)) w1.ok
    refine ⟨this.1,Nat.le_trans this.2 ?_⟩
    have l1:w.cps.size<=30:=w1.len
    simp only [List.length_cons]
    omega
theorem amH {ws:List Str} (h:∀ z∈ws,WOk z):(ws.map (·.length)).sum<=30 * ws.length:=by
  induction ws with
  | nil=>exact Nat.le_refl _
  | cons w ws ih=>
    have w1:=(h w (List.mem_cons_self ..)).len
    have:=ih fun z hz=>h z (List.mem_cons_of_mem _ hz)
    rw [List.map_cons,List.sum_cons,List.length_cons]
    omega
theorem aiN (ks:List Str):strsD (ks.map D.str)=some ks:=by
  induction ks with
  | nil=>rfl
  | cons k r ih=>show (strsD (r.map D.str)).map (k::·)=_;rw [ih];rfl
theorem alZ {v:DV} {ws:List Str} {Q:DV->Prop} (hv:seqD v=some (ws.map D.str)) (h:∀ z∈ws,WOk z) (hl:ws.length<=10000) (q:Q (.d (.str (Txt.join " " ws)))):joinR (.d (.str " ")) v Q:=
  am2 hv (aiN ws) (by
    have:=amH h
    have l1:((" ":String):Str).length=1:=by decide
    rw [l1];omega) q
end DL
namespace DL
end DL
namespace DL
open PySem PySem.Spec PyProof.Rows L2
section
variable {X:Cx} {W:WX} {o e:Expr} {to te:TD} {apos pos:Pos}
end
section
variable {K:PySem.W.Frag}
end
abbrev tl (x:Str):List Nat:=TL.tl x
structure FnV (P:Program) (w:World) (K:PySem.W.Frag) (mg:Str->Option Value) (base:Heap) (k:Nat) (f:Addr) (sp:SpD):Prop where
  run:∀ (A:Around) (outer:List Env) (s:Shared) (H:Hp) (us:List Value) (vs:List V) (Q:VK) (E:XK),Room k A->A.guards=some []->Env0 P w K mg base A outer s H->Vals vs us->upSp K sp vs H Q E->
    codeAny (model P w) A (.call (.ref f) ⟨us,[]⟩) (CR (L2N.CX P w) outer P w H s Q E) s
theorem FnV.mono {P:Program} {w:World} {K:PySem.W.Frag} {mg:Str->Option Value} {base:Heap} {j k:Nat} {f:Addr} {sp:SpD} (F:FnV P w K mg base j f sp) (h:j<=k):FnV P w K mg base k f sp:=
  ⟨fun A outer s H us vs Q E hr=>F.run A outer s H us vs Q E (hr.mono h)⟩
section
variable {X:Cx} {W:WX} {k:Nat} {f C:Addr} {sp:SpD} {x m:Str} {p pos apos:Pos} {e o:Expr} {es:List Expr} {ta:TDA} {to:TD} {pl:Sem Bool}
end
section
variable {n:Nat} {sp:SpD} {ta:TDA}
end
end DL
namespace DL
open PySem PySem.Spec PyProof.Rows L2 PySem.W
end DL
namespace DL
open PySem PySem.Spec PyProof.Rows L2
section
variable {X:Cx} {W:WX} {o e:Expr} {to te:TD} {apos pos:Pos}
end
end DL
set_option maxHeartbeats 4000000
namespace DL
open PySem PySem.Spec PyProof.Rows L2
section
variable {X:Cx} {W:WX} {elt tg iter:Expr} {ifs:List Expr} {scope:Scope} {own:List (Str × Nat)} {pos spos:Pos} {ti:TDI} {g:TDG} {tt:TDT} {te:TD} {ix:List Nat}
end
section
variable {K:PySem.W.Frag} {G G':Hp} {so:So} {σ:L2.St} {H H':Hp} {sl sl':DSt} {v:V} {dv:DV}
end
section
variable {X:Cx} {W:WX} {e a b c:Expr} {ta tb tc te:TD} {pos apos:Pos}
end
end DL
namespace DL
open PySem PySem.Spec PyProof.Rows L2 PySem.W PySem.Calls
section
variable {prog:Program} {w:World} {A:Around} {E:Value->Shared->Prop} {s:Shared} {a kS:Addr} {b:Bool} {vs:List Value} {keys:Array Value} {e e1:Nat} {P:PySem.Fin->Shared->Prop}
end
theorem PostH.trans {K:PySem.W.Frag} {G G1 G2:Hp} {so:So} {H H1 H2:Hp} (a:PostH K G so H H1 G1) (b:PostH K G1 so H1 H2 G2):PostH K G so H H2 G2:=
  ⟨a.ex.trans b.ex,b.hrep,fun c o e s=>b.keep c o (a.keep c o e s) s,fun c n g s=>b.frm c (by rw [ajE a.keep n s.q];exact n) (a.frm c n g s) s⟩
theorem PostH.refl {K:PySem.W.Frag} {G:Hp} {so:So} {H:Hp} (h:HRep K G so H):PostH K G so H H G:=⟨Ex.refl G,h,fun _ _ e _=>e,fun _ _ g _=>g⟩
section
variable {X:Cx} {σ:L2.St} {A:Around} {pins:List (Addr × Obj)} {G H:Hp} {so:So} {s:Shared} {f:Value} {Gc:Hp->Prop} {kf:D->(PyData->Prop)->Prop} {a kS:Addr} {b:Bool} {us:List Value} {vs:List V} {ds:List D} {kz:List PyData} {E:Value->Shared->Prop} {P:PySem.Fin->Shared->Prop} {e1:Nat}
theorem repin {pl:List (Addr × Obj)} (I:Inv X pins σ H s) (h:∀ p∈pl,s.heap.get? p.1=some p.2/\FpOk X pins H p.1/\∀ v,p.2.data≠.cell v):Inv X (pins++pl) σ H s:=
  I.pins_of fun p hp=>(List.mem_append.mp hp).elim (fun z=>I.pin p (List.mem_append_right _ z)) fun z=>by
    obtain ⟨e,f,d⟩:=h p z
    exact ⟨e,f.1,f.2.1,f.2.2.1,d⟩
end
section
variable {X:Cx} {W:WX} {k:Nat} {f:Addr} {fd:FuncData} {ps:List Str} {sp:SpD}
end
section
variable {X:Cx} {W:WX} {e fe:Expr} {te:TD} {p kpos pos:Pos} {q:Addr} {kf:D->(PyData->Prop)->Prop}
end
def LamHO (q:Str) (params:Arguments) (body:Expr) (scope:Scope) (f c':Addr):HO:=.ext fun h=>∃ (doc pm ctv:Value),h.get? f=some (kdv_obj "<lambda>" q params (.expr body) scope [] .none doc pm c' ctv)
def LamG (q:Str) (params:Arguments) (body:Expr) (scope:Scope) (f:Addr) (G:Hp):Prop:=∃ c',G f=some (LamHO q params body scope f c')/\G c'=some (LamX.CodeO c' q)
theorem LamG.mono {q:Str} {params:Arguments} {body:Expr} {scope:Scope} {f:Addr} {G G1:Hp} (e:Ex G G1) (h:LamG q params body scope f G):LamG q params body scope f G1:=by
  obtain ⟨c',h1,h2⟩:=h
  exact ⟨c',e _ _ h1,e _ _ h2⟩
section
variable {X:Cx} {k:Nat} {q x:Str} {params:Arguments} {body:Expr} {scope:Scope} {te:TD}
end
section
variable {X:Cx} {pins:List (Addr × Obj)} {σ:L2.St} {H:Hp} {s:Shared} {c P:Addr} {ps:Array Value} {params:Arguments} {body:Expr} {scope:Scope} {pos:Pos} {Q E:Value->Shared->Prop}
end
section
variable {K:PySem.W.Frag} {G G1:Hp} {so:So} {σ:L2.St} {H H1 H2:Hp} {sl s1:DSt}
end
section
variable {X:Cx} {W:WX} {e:Expr} {te tl:TD} {p kpos pos lpos:Pos} {c:Addr} {k:Nat} {x:Str} {params:Arguments} {body:Expr} {scope:Scope}
end
end DL
namespace DL
open PySem PySem.Spec PyProof.Rows L2
section
variable {X:Cx} {W:WX} {a b:Expr} {ta tb:TD} {pos:Pos}
end
section
variable {β γ:Type}
end
section
variable {M:Model} {prog:Program} {w:World} {A:Around} {E:Value->Shared->Prop} {s:Shared} {K:PySem.W.Frag} {x C f:Addr} {ox:Obj} {od:Option Obj} {b:Value} {nm:String} {T:String}
end
section
variable {X:Cx} {W:WX} {k:Nat} {f C:Addr} {fd:FuncData} {ps:List Str} {sp:SpD} {a b:Expr} {ta tb:TD} {pos:Pos}
end
section
variable {K:PySem.W.Frag} {G H:Hp}
end
section
variable {X:Cx}
end
section
variable {prog:Program} {w:World} {κ:Type} [DecidableEq κ] {knd:HeapKind prog w κ} {A:Around} {E:Value->Shared->Prop} {s:Shared}
end
section
variable {X:Cx} {pins:List (Addr × Obj)} {σ:L2.St} {H:Hp} {s:Shared}
end
end DL
namespace DL
open PySem PySem.Spec PyProof.Rows L2 PySem.W
end DL
namespace DL
open PySem PySem.Spec PyProof.Rows L2
section
variable {prog:Program} {w:World} {A:Around} {E:Value->Shared->Prop} {s:Shared} {K:PySem.W.Frag} {x y C f:Addr} {ox oy:Obj} {od od':Option Obj} {nm:String}
end
section
variable {X:Cx} {W:WX} {k:Nat} {f C:Addr} {fd:FuncData} {ps:List Str} {sp:SpD} {a b:Expr} {ta tb:TD} {pos:Pos}
end
section
open PySem.W PySem.Calls PyProof.V DT
variable {prog:Program} {w:World} {A:Around} {E:Value->Shared->Prop} {s:Shared} {v d:Addr} {es:Array DictEntry} {ep:Nat}
end
section
variable {X:Cx}
end
section
variable {X:Cx} {W:WX}
end
section
variable {g:TDG} {tt:TDT} {te:TD} {vs:List Nat} {Q:DV->DSt->Prop}
end
section
variable {K:PySem.W.Frag} {X:Cx}
end
section
variable {α:Type} [DecidableEq α] (U:α->α->Bool)
def kStep (C:α->Bool) (acc:List α) (f:α):List α:=if decide (f∈acc)=false/\C f=true then acc++[f] else acc
abbrev kept (C:α->Bool) (P:List α):List α:=P.foldl (kStep C) []
variable {U}
end
section
variable {X:Cx} {W:WX} {k:Nat} {f C:Addr} {sp:SpD} {m:Str} {pos apos:Pos} {o e:Expr} {es:List Expr} {ta:TDA} {to:TD} {pl:Sem Bool}
end
section
variable {g:TDG} {tt:TDT} {tk tv:TD} {vs:List Nat} {Q:DV->DSt->Prop}
end
section
variable {X:Cx} {W:WX} {kx vx tg iter:Expr} {ifs:List Expr} {scope:Scope} {own:List (Str × Nat)} {pos:Pos} {ti:TDI} {g:TDG} {tt:TDT} {tk tv:TD} {ix:List Nat}
end
section
variable {X:Cx} {kx vx tg iter:Expr} {ifs:List Expr} {scope:Scope} {own:List (Str × Nat)} {pos spos py:Pos} {wi:TI} {g:TG} {tt:TT} {tk tv:TE} {i:Nat} {y:Str}
end
section
variable {X:Cx} {W:WX} {kx vx tg iter:Expr} {ifs:List Expr} {scope:Scope} {own:List (Str × Nat)} {pos spos:Pos} {ti:TDI} {g:TDG} {tt:TDT} {tk tv:TD} {ix:List Nat}
end
section
variable {X:Cx} {W:WX} {a b:Expr} {ta tb:TD} {pos:Pos}
end
section
variable {P:Program} {w:World} {A:Around} {E:Value->Shared->Prop} {s:Shared}
abbrev mh (P:Program) (w:World) (k:List Key):Int:=tupleKeyHash (mixKind P w) k
def rowsM (P:Program) (w:World) (L:List (Addr × List Key)):List (Int × Value):=L.map fun p=>(mh P w p.2,Value.ref p.1)
def hsM (P:Program) (w:World) (L:List (Addr × List Key)):List Int:=L.map fun p=>mh P w p.2
structure SetM (P:Program) (w:World) (h:Heap) (a:Addr) (L:List (Addr × List Key)) (es:Array (Int × Value)) (ep:Nat) (t:SetTable):Prop where
  ob:∃ o,h.get? a=some o/\o.ExactSet/\o.data=.set es ep t
  rows:es.toList=rowsM P w L
  tab:L2.TabOk t (hsM P w L)
  nd:(L.map (·.2)).Nodup
  led:w.params.followText "set-order"=true\/t.led=true
  room:L.length * 5 < t.mask * 3
  few:L.length < 64
theorem ai4 {es:Array (Int × Value)} {L:List (Addr × List Key)} (h:es.toList=rowsM P w L):es.size=L.length:=by
  have z:=congrArg List.length h
  rw [Array.length_toList] at z
  rw [z,rowsM,List.length_map]
variable {a:Addr} {L:List (Addr × List Key)} {es:Array (Int × Value)} {ep:Nat} {t:SetTable} {h:Heap}
theorem SetM.size (R:SetM P w h a L es ep t):es.size=L.length:=ai4 R.rows
theorem SetM.keep {h':Heap} (R:SetM P w h a L es ep t) (k:∀ o,h.get? a=some o->h'.get? a=some o):SetM P w h' a L es ep t:=by
  obtain ⟨o,ho,r⟩:=R.ob
  exact ⟨⟨o,k o ho,r⟩,R.rows,R.tab,R.nd,R.led,R.room,R.few⟩
end
section
variable {X:Cx}
end
section
variable {X:Cx} {W:WX} {e:Expr} {te:TD} {tl th:TDO} {pos p2:Pos} {lo hi:Option Expr} {K:PySem.W.Frag}
end
section
variable {g:TDG} {tt:TDT} {te:TD} {vs:List Nat} {F:List (List Key)->DSt->Prop}
end
section
variable {X:Cx} {W:WX} {elt tg iter:Expr} {ifs:List Expr} {scope:Scope} {own:List (Str × Nat)} {pos p lpos:Pos} {ti:TDI} {g:TDG} {tt:TDT} {te:TD} {ix:List Nat}
end
section
variable {g:TDG} {tt:TDT} {te:TD} {vs:List Nat} {F:List (List Key)->DSt->Prop}
end
section
variable {prog:Program} {w:World} {A:Around} {R:Result->Shared->Prop} {s:Shared} {elt t i:Expr} {ifs:List Expr} {gens:List Comprehension} {scope:Scope} {pos:Pos} {it acc:Value} {env:Env} {d:Nat}
end
def Ends (Y:Cx) (pins:List (Addr × Obj)) (σ:L2.St) (vs:List Nat) (Nx:Hp->Prop) (F:Shared->Prop):Prop:=∀ (σ':L2.St) (s':Shared) (H':Hp),Inv Y pins σ' H' s'->σ'.length=σ.length->(∀ (j:Nat) v,(wipe σ vs)[j]?=some (some v)->σ'[j]?=some (some v))->Nx H'->F s'
section
variable {Y:Cx} {elt:Expr} {gens:List Comprehension} {scope:Scope} {pos:Pos} {acc:Value}
end
section
variable {X:Cx}
end
section
variable {K:PySem.W.Frag} {G H:Hp} {so:So} {σ:L2.St} {sl:DSt}
end
section
variable {X:Cx} {tg e:Expr} {te:TD}
end
abbrev DBody:=(List D->DSt->Prop)->List D->DSt->Prop
section
variable {body:DBody} {g:TDG} {tt:TDT} {vs:List Nat} {F:List D->DSt->Prop} {acc:List D} {sl:DSt}
end
structure ClX where
  tg:Expr
  iter:Expr
  ifs:List Expr
  ti:TDI
  g':TG
  g:TDG
  tt:TDT
  vs:List Nat
  ix:List Nat
structure CSt (K:PySem.W.Frag) (C:Addr) (n:Nat) (G:Hp) (so:So) (σ:L2.St) (H:Hp) (sl:DSt) (us:List V) (acc:List D):Prop where
  rep:Rep K G so σ H sl
  hC:H C=some (.lst us)
  gC:G C=none
  nt:so.Nt C
  no:¬ Own sl σ C
  al:DAll K G us acc
  nb:∀ (j:Nat) (o:OO),sl[j]?=some (some (.bor o))->σ[j]?=some (some (.ref C))->False
  ln:σ.length=n
structure CR (C:Addr) (so:So) (G:Hp) (σ:L2.St) (H:Hp) (sl:DSt) (G':Hp) (σ':L2.St) (H':Hp) (sl':DSt):Prop where
  ex:Ex G G'
  keep:∀ a o,a≠C->H a=some o->so.Nt a->H' a=some o
  frm:∀ a,H a≠none->G a=none->so.Nt a->¬ Own sl σ a->G' a=none
  sub:∀ a,Own sl' σ' a->Own sl σ a
  bs:∀ (j:Nat) (o:OO),sl'[j]?=some (some (.bor o))->∃ o',sl[j]?=some (some (.bor o'))
section
variable {K:PySem.W.Frag} {C:Addr} {n:Nat} {G G' G2:Hp} {so:So} {σ σ' σ2:L2.St} {H H' H2:Hp} {sl sl' sl2:DSt} {us:List V} {acc:List D}
theorem CR.refl:CR C so G σ H sl G σ H sl:=⟨Ex.refl _,fun _ _ _ e _=>e,fun _ _ g _ _=>g,fun _ z=>z,fun _ o e=>⟨o,e⟩⟩
theorem CR.trans (hC:G' C=none->G2 C=none) (a:CR C so G σ H sl G' σ' H' sl') (b:CR C so G' σ' H' sl' G2 σ2 H2 sl2):CR C so G σ H sl G2 σ2 H2 sl2 where
  ex:=a.ex.trans b.ex
  keep:=fun x o nx e s=>b.keep x o nx (a.keep x o nx e s) s
  frm:=fun x n1 g1 s w=>by
    have g':=a.frm x n1 g1 s w
    by_cases z:x=C
    · subst z;exact hC g'
    · obtain ⟨o,e⟩:=Option.ne_none_iff_exists'.mp n1
      exact b.frm x (by rw [a.keep x o z e s];simp) g' s fun q=>w (a.sub x q)
  sub:=fun x z=>a.sub x (b.sub x z)
  bs:=fun j o e=>let ⟨o1,e1⟩:=b.bs j o e;a.bs j o1 e1
theorem CR.wipe (vs:List Nat):CR C so G σ H sl G (L2.wipe σ vs) H (wipeD sl vs):=⟨Ex.refl _,fun _ _ _ e _=>e,fun _ _ g _ _=>g,fun _ z=>aaT z,fun _ o e=>⟨o,(aaj e).1⟩⟩
theorem CSt.wipe (c:CSt K C n G so σ H sl us acc) (vs:List Nat):CSt K C n G so (L2.wipe σ vs) H (wipeD sl vs) us acc where
  rep:=c.rep.wipe vs
  hC:=c.hC
  gC:=c.gC
  nt:=c.nt
  no:=fun z=>c.no (aaT z)
  al:=c.al
  nb:=fun j o e1 e2=>c.nb j o (aaj e1).1 (wipe_some e2).1
  ln:=(wipe_length σ vs).trans c.ln
end
section
variable {K:PySem.W.Frag} {n:Nat} {C:Addr}
end
section
variable {X:Cx} {W:WX} {elt tg iter:Expr} {ifs:List Expr} {scope:Scope} {own:List (Str × Nat)} {pos:Pos} {ti:TDI} {g':TG} {g:TDG} {tt:TDT} {te:TD} {ix:List Nat} {r:List ClX}
end
section
variable {X:Cx} {W:WX} {elt tg iter tg1 iter1 tg2 iter2:Expr} {ifs ifs1 ifs2:List Expr} {scope:Scope} {own:List (Str × Nat)} {pos:Pos} {ti ti1 ti2:TDI} {g' g1' g2':TG} {g g1 g2:TDG} {tt tt1 tt2:TDT} {te:TD} {ix ix1 ix2:List Nat}
end
section
variable {X:Cx} {W:WX} {a b:Expr} {ta tb:TD} {i j:Nat} {x y:Str} {pos:Pos}
end
section
variable {prog:Program} {w:World} {A:Around} {R:Result->Shared->Prop} {s:Shared} {elt t i:Expr} {ifs:List Expr} {gens:List Comprehension} {scope:Scope} {pos:Pos} {it acc:Value} {env:Env} {d:Nat}
end
section
variable {Y:Cx} {elt:Expr} {gens:List Comprehension} {scope:Scope} {pos:Pos} {acc:Value}
end
section
variable {X:Cx}
end
end DL
namespace DL
open PySem PySem.Spec PyProof.Rows L2 PySem.W
section
variable {X:Cx}
end
end DL
namespace DL
open PySem PySem.Spec PyProof.Rows L2
abbrev SG:=Hp->HO->List D->Prop
structure CG (S:SG) (K:PySem.W.Frag) (C:Addr) (n:Nat) (G:Hp) (so:So) (σ:L2.St) (H:Hp) (sl:DSt) (acc:List D):Prop where
  rep:Rep K G so σ H sl
  ho:∃ o,H C=some o/\S G o acc
  gC:G C=none
  nt:so.Nt C
  no:¬ Own sl σ C
  nb:∀ (j:Nat) (o:OO),sl[j]?=some (some (.bor o))->σ[j]?=some (some (.ref C))->False
  ln:σ.length=n
section
variable {S:SG} {K:PySem.W.Frag} {C:Addr} {n:Nat} {G G' G2:Hp} {so:So} {σ σ' σ2:L2.St} {H H' H2:Hp} {sl sl' sl2:DSt} {us:List V} {acc:List D}
theorem CG.wipe (c:CG S K C n G so σ H sl acc) (vs:List Nat):CG S K C n G so (L2.wipe σ vs) H (wipeD sl vs) acc where
  rep:=c.rep.wipe vs
  ho:=c.ho
  gC:=c.gC
  nt:=c.nt
  no:=fun z=>c.no (aaT z)
  nb:=fun j o e1 e2=>c.nb j o (aaj e1).1 (wipe_some e2).1
  ln:=(wipe_length σ vs).trans c.ln
end
section
variable {K:PySem.W.Frag} {n:Nat} {C:Addr}
end
section
variable {X:Cx} {W:WX} {elt tg iter:Expr} {ifs:List Expr} {scope:Scope} {own:List (Str × Nat)} {p pos cpos:Pos} {ti:TDI} {g':TG} {g:TDG} {tt:TDT} {te:TD} {ix:List Nat} {r:List ClX}
end
end DL
namespace DL
open PySem PySem.Spec PySem.Calls PyProof.Rows L2 PySem.W
section
variable {prog:Program} {w:World} {A:Around} {E:Value->Shared->Prop} {s:Shared}
end
section
variable {X:Cx} {e1 e2:Expr} {p2 pos:Pos} {k:Nat} {t:TGs}
end
section
variable {X:Cx} {W:WX} {e:Expr} {te:TD} {i j:Nat} {x y:Str} {pos:Pos}
end
end DL
namespace DL
open PySem PySem.Spec PyProof.Rows L2
def ZSt (S z TI TO i1 i2 l1 l2:Addr) (xs ys:Array Value) (i:Nat) (h:Heap):Prop:=
  IsPair h TI (.ref i1) (.ref i2)/\h.IsListIter i1 l1 i/\h.IsListIter i2 l2 i/\h.IsList l1 xs/\h.IsList l2 ys/\
    ((IsZip h z TI TO .none/\∃ a b,IsPair h TO a b)\/∃ T f oT,IsZipHeld h z TI TO T f/\h.get? T=some oT/\T≠z/\T≠i1/\T≠i2/\T≠S)
theorem ZSt.keep {S z TI TO i1 i2 l1 l2:Addr} {xs ys:Array Value} {i:Nat} {h h':Heap} (st:ZSt S z TI TO i1 i2 l1 l2 xs ys i h) (off:S∉[z,TI,TO,i1,i2,l1,l2]) (k:∀ b o,b≠S->h.get? b=some o->h'.get? b=some o):ZSt S z TI TO i1 i2 l1 l2 xs ys i h':=by
  simp only [List.mem_cons,List.not_mem_nil,or_false,not_or] at off
  obtain ⟨dz,dTI,dTO,di1,di2,dl1,dl2⟩:=off
  obtain ⟨hTI,h1,h2,hl1,hl2,hz⟩:=st
  refine ⟨k _ _ (Ne.symm dTI) hTI,h1.at fun o e=>k _ o (Ne.symm di1) e,h2.at fun o e=>k _ o (Ne.symm di2) e,hl1.at fun o e=>k _ o (Ne.symm dl1) e,hl2.at fun o e=>k _ o (Ne.symm dl2) e,?_⟩
  rcases hz with ⟨hz,a,b,hTO⟩ | ⟨T,f,oT,hz,hT,r1,r2,r3,r4⟩
  · exact .inl ⟨k _ _ (Ne.symm dz) hz,a,b,k _ _ (Ne.symm dTO) hTO⟩
  · exact .inr ⟨T,f,oT,k _ _ (Ne.symm dz) hz,k _ _ r4 hT,r1,r2,r3,r4⟩
section
variable {prog:Program} {w:World} {A:Around} {E:Value->Shared->Prop} {S z TI TO i1 i2 l1 l2:Addr} {xs ys:Array Value} {R:Result->Shared->Prop}
end
section
variable {X:Cx} {pins:List (Addr × Obj)} {σ:L2.St} {H:Hp} {s:Shared}
end
section
variable {X:Cx} {W:WX}
end
def dPutL (tk te:TD) (i:Nat):TDS:=fun E sl=>te sl (fun y s1=>∃ d,pubV y=.d d/\∃ ds,s1[i]?=some (some (.own (.lst ds)))/\tk s1 (fun x s2=>match s2[i]?,pubV x with
  | some (some (.own (.lst ds))),.d (.int k)=>∃ j,ixN ds.length k=some j/\E.nx (s2.set i (some (.own (.lst (ds.set j d)))))
  | _,_=>False) E.xc) E.xc
section
variable {X:Cx} {W:WX} {o key value:Expr} {tk te:TD} {pos pos':Pos} {i:Nat}
theorem amj (ho:PE X o (tVar i)) (hk:DE X W key tk) (hv:DE X W value te) (hs:swapsWithSole [.Subscript o key pos'] value pos.line X.env=pure false:=by rfl) (hw:swappedStores [.Subscript o key pos'] value X.env=pure none:=by rfl)
    (h1:(assignEach [.Subscript o key pos'] X.env).map (·.2)=[assign (.Subscript o key pos') X.env]:=by rfl)
    (ha:∀ v,assign (.Subscript o key pos') X.env v=(do
      let ov <- holding [v] (eval o X.env)
      let iv <- holding [v,ov] (eval key X.env)
      standAt pos'
      holding [v,ov,iv] (setItem ov iv v)
      release [v,ov,iv] []):=by intro _;rfl) :
    DS X W (.Assign [.Subscript o key pos'] value pos) (dPutL tk te i):=by
  refine ac8 (ps_asg hv (pg_sub ho hk set_list ha) hs hw h1) fun D σ H ⟨G,so,sl,E,rep,q,ok⟩=>?_
  refine ⟨G,so,sl,_,E.xc,rep,q,fun y H1 G1 dy s1 p1 z=>?_,ok.xc.ex⟩
  obtain ⟨G2,p2⟩:=p1.pub
  obtain ⟨d,e2,ds0,e0,z⟩:=z
  rw [e2] at p2
  obtain ⟨v0,f0,a,rfl,ga,sa,vs0,h0,d0⟩:=p2.rep.slots i _ e0
  refine ⟨.ref a,f0,?_⟩
  refine ⟨G2,so,s1,_,E.xc,p2.rep,z,fun x H3 G3 dx s3 p3 z3=>?_,(ok.step p2.toPost.s).xc.ex⟩
  obtain ⟨G4,p4⟩:=p3.pub
  split at z3
  · rename_i ds k e1 e3
    obtain ⟨j,hj,z3⟩:=z3
    obtain ⟨v,f1,b,rfl,gb,sb,vs,h1,h2⟩:=p4.rep.slots i _ e1
    rw [f0] at f1
    cases f1
    have wx:DOk X.K G4 x (.int k):=by have:=p4.val;rw [e3] at this;exact this
    obtain rfl:x=.int k:=by cases wx;rfl
    have wy:DOk X.K G4 y d:=p2.over p4.toPost
    refine ⟨a,vs,k,j,rfl,rfl,h1,by rw [h2.length];exact hj,?_⟩
    exact ok.nx σ _ G4 _ ((p2.toPost.trans p4.toPost).s.trans (PostS.mut (o':=.lst (ds.set j d)) p4.rep e1 f0 ⟨_,upd_same,DAll.set wy j h2⟩)) z3
  · exact z3.elim
end
section
variable {X:Cx} {W:WX} {elt tg iter tg1 iter1:Expr} {ifs ifs1:List Expr} {scope:Scope} {own:List (Str × Nat)} {p pos cpos:Pos} {ti ti1:TDI} {g' g1':TG} {g g1:TDG} {tt tt1:TDT} {te:TD} {ix ix1:List Nat}
end
section
variable {X:Cx} {W:WX} {pos:Pos} {i j l:Nat} {x y z:Str} {a b c:Expr} {ta:TDA}
end
section
variable {X:Cx} {x:Str} {kvs:List (Str × Str)}
end
section
variable {prog:Program} {w:World} {K:Type} [DecidableEq K] {knd:KeyKind prog w K} {A:Around} {E:Value->Shared->Prop} {s:Shared}
end
section
variable {K:PySem.W.Frag} {G G1:Hp} {so:So} {σ:L2.St} {H H1:Hp} {sl s1:DSt} {p:Addr} {o:HO}
end
section
variable {X:Cx} {W:WX} {kx vx tg iter:Expr} {ifs:List Expr} {scope:Scope} {own:List (Str × Nat)} {pos:Pos} {ti:TDI} {g:TDG} {tt:TDT} {tk tv:TD} {ix:List Nat}
end
section
variable {X:Cx} {pins:List (Addr × Obj)} {σ:L2.St} {H:Hp} {s:Shared}
end
end DL
set_option maxHeartbeats 2000000
namespace DL
open PySem PySem.Spec PyProof.Rows L2
end DL
set_option maxHeartbeats 4000000
namespace DL
open PySem PySem.Spec PyProof.Rows L2
section
variable {X:Cx} {W:WX} {e:Expr} {te:TD} {i j:Nat} {x y:Str} {pos:Pos}
end
abbrev SpM:=List DV->List (Str × D)->(DV->List (Str × D)->Prop)->(Value->List (Str × D)->List (Str × D)->Prop)->Prop
def noMu:DSt->Bool
  | []=>true
  | some (.mu _ _ _)::_=>false
  | some (.gh _ _)::_=>false
  | _::r=>noMu r
theorem adk:∀ {sl:DSt} {j:Nat} {y D:Addr} {gs:List (Str × DL.D)},noMu sl=true->sl[j]?≠some (some (.mu y D gs))
  | [],j,_,_,_,_,e=>by simp at e
  | z::r,0,y,D,gs,h,e=>by
    simp at e;subst e;cases h
  | z::r,j + 1,y,D,gs,h,e=>by
    refine adk (sl:=r) ?_ (by simpa using e)
    unfold noMu at h
    split at h
    · rename_i q;cases q
    · cases h
    · cases h
    · rename_i q;cases q;exact h
theorem acK:∀ {sl:DSt} {j:Nat} {y:Addr} {g:GR},noMu sl=true->sl[j]?≠some (some (.gh y g))
  | [],j,_,_,_,e=>by simp at e
  | z::r,0,y,g,h,e=>by
    simp at e;subst e;cases h
  | z::r,j + 1,y,g,h,e=>by
    refine acK (sl:=r) ?_ (by simpa using e)
    unfold noMu at h
    split at h
    · rename_i q;cases q
    · cases h
    · cases h
    · rename_i q;cases q;exact h
section
variable {K:PySem.W.Frag} {G G' H H':Hp} {so:So} {x C:Addr} {v:V} {dv:DV} {fs fs':List (Str × D)}
def MuOk (K:PySem.W.Frag) (G H:Hp) (x C:Addr) (fs:List (Str × D)):Prop:=∃ dx vs,H x=some (.ins C dx vs)/\FAll K G vs fs
abbrev soM (so:So) (x C:Addr):So:=(x,Kd.mt C)::so.drop
structure PostMH (K:PySem.W.Frag) (G:Hp) (so:So) (H:Hp) (x C:Addr) (H' G':Hp) (fs':List (Str × D)):Prop where
  ex:Ex G G'
  hrep:HRep K G' (soM so x C) H'
  keep:∀ a o,H a=some o->so.drop.Nt a->a≠x->H' a=some o
  frm:∀ a,H a≠none->G a=none->so.drop.Nt a->a≠x->G' a=none
  self:MuOk K G' H' x C fs'
structure PostM (K:PySem.W.Frag) (G:Hp) (so:So) (H:Hp) (x C:Addr) (v:V) (H' G':Hp) (dv:DV) (fs':List (Str × D)):Prop extends PostMH K G so H x C H' G' fs' where
  val:VOk K G' (soM so x C) H' v dv
  new:∀ a o,dv=.own o->v=.ref a->H a=none
  nob:∀ o,dv≠.bor o
  ns:∀ o,dv≠.see o
def upM (K:PySem.W.Frag) (C:Addr) (sp:SpM):Sp:=fun vs H Q E=>∃ G so x vs' fs args QD ED,vs=.ref x::vs'/\HRep K G (soM so x C) H/\so.drop.Nt x/\MuOk K G H x C fs/\VsOk K G (soM so x C) H vs' args/\sp args fs QD ED/\
  (∀ v H' G' dv fs',PostM K G so H x C v H' G' dv fs'->QD dv fs'->Q v H')/\(∀ cls d H' G' efs fs',PostMH K G so H x C H' G' fs'->XdOk K G' H' d efs->ED cls efs fs'->E cls d H')
end
section
variable {K:PySem.W.Frag} {W:WX} {G G' H H':Hp} {so:So} {σ:L2.St} {sl:DSt} {x C:Addr} {v:V} {dv:DV} {fs fs':List (Str × D)} {i:Nat}
end
section
variable {X:Cx} {W:WX} {k n:Nat} {f C:Addr} {fd:FuncData} {ps ks:List Str} {sp:SpM} {sel:List Sel} {m nm:Str} {p pos apos kpos:Pos} {o e:Expr} {es:List Expr} {ta:TDA} {te:TD} {pl:Sem Bool} {i:Nat}
end
section
variable {X:Cx} {W:WX} {k n:Nat} {f C:Addr} {fd:FuncData} {ps ks:List Str} {sp:SpI} {sel:List Sel} {x nm:Str} {p pos kpos:Pos} {e:Expr} {es:List Expr} {kws:List Keyword} {ta tk tk':TDA} {te:TD}
end
section
variable {X:Cx} {W:WX} {k n:Nat} {f C:Addr} {fd:FuncData} {ps ks:List Str} {sp:SpM} {sel:List Sel} {m nm:Str} {p pos apos kpos:Pos} {o e:Expr} {es:List Expr} {ta:TDA} {te:TD} {pl:Sem Bool} {i:Nat}
end
section
variable {X:Cx} {W:WX} {x:Str} {c:Value} {body suite:List Stmt} {b0:Stmt} {np pos pos':Pos} {t u:TDS}
end
section
variable {X:Cx} {W:WX} {elt tg iter:Expr} {ifs:List Expr} {scope:Scope} {own:List (Str × Nat)} {pos spos:Pos} {ti:TDI} {g:TDG} {tt:TDT} {te:TD} {ix:List Nat}
end
section
variable {X:Cx} {W:WX} {k n:Nat} {f C r:Addr} {fd:FuncData} {ps ks:List Str} {sp:SpD} {sel:List Sel} {m nm:Str} {p pos apos kpos:Pos} {o e:Expr} {es:List Expr} {kws:List Keyword} {ta tk':TDA} {pl:Sem Bool}
end
end DL
set_option maxHeartbeats 2000000
namespace DL
open PySem PySem.Spec PyProof.Rows L2
section
variable {X:Cx} {pins:List (Addr × Obj)} {σ:L2.St} {H HZ:Hp} {s s1:Shared} {params:Arguments} {xs:List Str} {vs:List Nat}
end
section
variable {X:Cx} {W:WX} {K:PySem.W.Frag} {cs:List Value} {x a:Str} {g c:Addr} {fdg:FuncData} {qg:Str} {pg:Arguments} {bg:List Stmt} {sg:Scope} {Ng xs:List Str} {params:Arguments} {body:Expr} {scope:Scope} {te:TD} {k:Nat} {p lpos pos:Pos} {vs:List Nat}
end
section
variable {X:Cx} {W:WX} {k n:Nat} {f C r:Addr} {fd:FuncData} {ps ks:List Str} {sp:SpD} {sel:List Sel} {m nm:Str} {p pos apos kpos:Pos} {o e:Expr} {es:List Expr} {kws:List Keyword} {ta tk':TDA} {pl:Sem Bool}
end
end DL
set_option maxHeartbeats 4000000
namespace DL
open PySem PySem.Spec PyProof.Rows L2
section
variable {X:Cx} {W:WX} {g0:Stmt} {gs:List Stmt} {tv tu:TS} {pins:List (Addr × Obj)} {D:L2.Ends}
end
section
variable {K:PySem.W.Frag} {W:WX} {G G1 H H1:Hp} {so:So} {σ σ1:L2.St} {sl s1:DSt} {d:Option Addr} {fs:List (Str × D)}
end
section
variable {X:Cx} {W:WX} {body gs:List Stmt} {g0:Stmt} {pos:Pos} {t u:TDS}
end
def noMus:DSt->DSt:=List.map fun d=>match d with
  | some (.mu _ _ _)=>none
  | some (.gh _ _)=>none
  | d=>d
theorem acu {sl:DSt} {i:Nat} {dv:DV} (e:(noMus sl)[i]?=some (some dv)):sl[i]?=some (some dv)/\(∀ x C fs,dv≠.mu x C fs)/\∀ y g,dv≠.gh y g:=by
  unfold noMus at e
  rw [List.getElem?_map] at e
  cases q:sl[i]? with
  | none=>rw [q] at e;cases e
  | some d=>
    rw [q] at e
    cases d with
    | none=>cases e
    | some w=>
      cases w with
      | mu _ _ _=>cases e
      | gh _ _=>cases e
      | _=>cases e;exact ⟨rfl,(fun _ _ _ z=>by cases z),fun _ _ z=>by cases z⟩
section
variable {K:PySem.W.Frag} {W:WX} {G G' H H':Hp} {so:So} {σ σ':L2.St} {sl sl':DSt} {x C:Addr} {fs:List (Str × D)} {i:Nat}
end
section
variable {X:Cx} {W:WX} {rest:List Stmt} {u:TDS} {C:Addr} {i:Nat}
end
structure FnVM (P:Program) (w:World) (K:PySem.W.Frag) (mg:Str->Option Value) (base:Heap) (k:Nat) (f C:Addr) (sp:SpM):Prop where
  run:∀ (A:Around) (outer:List Env) (s:Shared) (H:Hp) (us:List Value) (vs:List V) (Q:VK) (E:XK),Room k A->A.guards=some []->Env0 P w K mg base A outer s H->Vals vs us->upM K C sp vs H Q E->
    codeAny (model P w) A (.call (.ref f) ⟨us,[]⟩) (L2.CR (L2N.CX P w) outer P w H s Q E) s
theorem FnVM.mono {P:Program} {w:World} {K:PySem.W.Frag} {mg:Str->Option Value} {base:Heap} {j k:Nat} {f C:Addr} {sp:SpM} (F:FnVM P w K mg base j f C sp) (h:j<=k):FnVM P w K mg base k f C sp:=
  ⟨fun A outer s H us vs Q E hr=>F.run A outer s H us vs Q E (hr.mono h)⟩
section
variable {X:Cx} {W:WX} {k:Nat} {f C:Addr} {sp:SpM} {m:Str} {apos pos:Pos} {o e:Expr} {es:List Expr} {ta:TDA} {pl:Sem Bool} {i:Nat}
end
section
variable {K:PySem.W.Frag} {G H:Hp} {so:So} {σ:L2.St} {sl:DSt} {x C:Addr} {fs:List (Str × D)} {i:Nat}
end
section
variable {X:Cx} {W:WX} {k n:Nat} {f C g:Addr} {fd:FuncData} {ps ks:List Str} {sp:SpD} {sel:List Sel} {m nm:Str} {p pos apos kpos:Pos} {o e:Expr} {es:List Expr} {kws:List Keyword} {ta tk':TDA} {te:TD} {pl:Sem Bool} {i:Nat}
end
section
variable {X:Cx} {W:WX} {x:Str} {kvs:List (Str × Int)} {o b c:Expr} {tb tc:TD} {apos cpos:Pos}
end
section
variable {X:Cx} {W:WX} {k n:Nat} {f:Addr} {fd:FuncData} {ps:List Str} {sp:SpD} {sel:List Sel} {x:Str} {p pos:Pos} {a0:Expr} {es:List Expr} {ta:TDA} {i:Nat}
end
section
variable {X:Cx} {W:WX} {k n:Nat} {f g C:Addr} {fd:FuncData} {ps ks:List Str} {sp:SpD} {sel:List Sel} {m nm:Str} {p pos apos kpos:Pos} {o e:Expr} {es:List Expr} {ta:TDA} {to te:TD} {pl:Sem Bool}
end
section
variable {C:Addr} {sp:SpD}
end
end DL
set_option maxHeartbeats 2000000
namespace DL
open PySem PySem.Spec PyProof.Rows L2
def noBi:DSt->Bool
  | []=>true
  | some (.bor _)::_=>false
  | _::r=>noBi r
theorem agd:∀ {sl:DSt} {j:Nat} {o:OO},noBi sl=true->sl[j]?≠some (some (.bor o))
  | [],j,_,_,e=>by simp at e
  | z::r,0,o,h,e=>by
    simp at e;subst e;cases h
  | z::r,j + 1,o,h,e=>by
    refine agd (sl:=r) ?_ (by simpa using e)
    unfold noBi at h
    split at h
    · rename_i q;cases q
    · cases h
    · rename_i q;cases q;exact h
section
variable {K:PySem.W.Frag} {W:WX} {G G1 H H1:Hp} {so:So} {σ σ1:L2.St} {sl s1:DSt} {x C:Addr} {fs:List (Str × D)} {i:Nat}
end
section
variable {X:Cx} {W:WX} {st:Stmt} {rest:List Stmt} {t u:TDS} {i:Nat}
end
section
variable {M:Model} {A:Around} {E:Value->Shared->Prop} {env:Env} {Q:Flow->Shared->Prop}
theorem aha (b:List Stmt) (Γ:PySem.Ctx) (hΓ:Γ.In A):∀ (a:List Stmt) (p:Pos) (s:Shared),PySem.Sem.wp M Γ (execs a env) (fun f _ s'=>match f with | .next=>wpAny M A (execs b env) Q E s' | f=>Q f s') (fun e _ s'=>E e s') p s->PySem.Sem.wp M Γ (execs (a++b) env) (fun f _ s'=>Q f s') (fun e _ s'=>E e s') p s
  | [],p,s,h=>by
    have e:execs [] env=pure .next:=by rw [execs]
    rw [e,PySem.Sem.wp_pure'] at h
    exact h Γ p hΓ
  | st::r,p,s,h=>by
    rw [execs_cons,PySem.Sem.wp_bind'] at h
    rw [List.cons_append,execs_cons,PySem.Sem.wp_bind']
    refine PySem.Sem.wp_mono M Γ _ (fun f p' s' h'=>?_) (fun _ _ _ h'=>h') _ _ h
    cases f with
    | next=>exact aha b Γ hΓ r p' s' h'
    | ret v=>rw [PySem.Sem.wp_pure'] at h' ⊢;exact h'
    | brk=>rw [PySem.Sem.wp_pure'] at h' ⊢;exact h'
    | cont=>rw [PySem.Sem.wp_pure'] at h' ⊢;exact h'
end
theorem alD {X:Cx} {a b:List Stmt} {t u:TS} (h1:PSs X a t) (h2:PSs X b u):PSs X (a++b) (tSeq t u):=by
  refine ⟨fun pins s σ H D I h=>fun Γ p hΓ=>aha b Γ hΓ a p s ?_⟩
  refine PySem.Sem.wp_mono _ Γ _ (fun f p' s' q=>?_) (fun _ _ _ h'=>h') _ _ (h1.run pins s σ H { D with nx:=u D } I h Γ p hΓ)
  cases f with
  | next=>
    obtain ⟨σ',H',I',q⟩:=q
    exact h2.run pins s' σ' H' D I' q
  | ret v=>exact q
  | brk=>exact q
  | cont=>exact q
section
variable {K:PySem.W.Frag} {G H:Hp} {so:So} {σ:L2.St} {sl:DSt} {x C:Addr} {fs:List (Str × D)} {i:Nat}
end
section
variable {X:Cx} {W:WX} {sts:List Stmt} {u t:TDS} {C:Addr} {i n:Nat}
end
section
variable {C:Addr} {sp:SpD}
end
section
variable {X:Cx} {W:WX} {k n:Nat} {f C:Addr} {fd:FuncData} {ps ks:List Str} {sp:SpI} {sel:List Sel} {x nm:Str} {p pos kpos:Pos} {e:Expr} {es:List Expr} {kws:List Keyword} {ta tk tk':TDA} {te:TD}
end
section
variable {X:Cx} {W:WX} {k n:Nat} {f g C:Addr} {fd:FuncData} {ps ks:List Str} {sp:SpD} {sel:List Sel} {m nm:Str} {p pos apos kpos:Pos} {o e:Expr} {es:List Expr} {kws:List Keyword} {ta tk':TDA} {to te:TD} {pl:Sem Bool}
end
section
variable {X:Cx} {W:WX} {k n:Nat} {f C:Addr} {fd:FuncData} {ps:List Str} {sp:SpM} {sel:List Sel} {x:Str} {p pos:Pos} {a0:Expr} {es:List Expr} {ta:TDA} {i:Nat}
end
end DL
set_option maxHeartbeats 4000000
namespace DL
open PySem PySem.Spec PyProof.Rows L2
section
variable {X:Cx} {W:WX} {rest:List Stmt} {t:TDS} {i:Nat}
end
section
variable {K:PySem.W.Frag} {G:Hp} {so:So} {σ σ1:L2.St} {H H1:Hp} {sl s1:DSt} {v:V} {y:D} {i:Nat}
end
section
variable {X:Cx} {W:WX} {a b c d:Expr} {ta:TD} {tl:TDA} {i j l m:Nat} {x y z w:Str} {pos:Pos}
end
end DL
namespace DL
section
open PySem PySem.SeqAt GQ
open AutoSeq1 (wpAny_loadPart')
open MeetsSeq MeetsSeq2 MeetsSeq3 SeqRoads2
variable {prog:Program} {w:World} {A:Around} {R:Result->Shared->Prop} {E:Value->Shared->Prop}
end
open PySem PySem.Spec PyProof.Rows L2
section
variable {X:Cx}
end
end DL
set_option maxHeartbeats 2000000
namespace DP
open PySem PySem.W PySem.Calls PyProof.Rows PyProof.V PySem.Spec
section
variable {prog:Program} {w:World} {KT:Type} [DecidableEq KT] {knd:KeyKind prog w KT} {A:Around} {E:Value->Shared->Prop} {s:Shared}
end
section
open PySem.SeqAt MeetsSeq MeetsSeq2 MeetsSeq3 SeqRoads2
open AutoSeq1 (wpAny_loadPart')
variable {prog:Program} {w:World} {A:Around} {R:Result->Shared->Prop} {E:Value->Shared->Prop}
end
end DP
namespace DL
open PySem PySem.Spec PyProof.Rows L2
section
variable {X:Cx} {k:Nat} {f C:Addr} {fd:FuncData} {ps:List Str} {sp:SpD}
end
mutual
inductive NT where
  | leaf (d:D)
  | node (a:Addr) (xs:List NT)
end
mutual
def NT.as:NT->List Addr
  | .leaf _=>[]
  | .node a xs=>a::NT.asL xs
def NT.asL:List NT->List Addr
  | []=>[]
  | x::r=>NT.as x++NT.asL r
end
mutual
def NT.d:NT->D
  | .leaf d=>d
  | .node _ xs=>.lst (NT.dL xs)
def NT.dL:List NT->List D
  | []=>[]
  | x::r=>NT.d x::NT.dL r
end
mutual
inductive NOk (K:PySem.W.Frag) (G H:Hp):V->NT->Prop
  | leaf {v:V} {d:D}:DOk K G v d->NOk K G H v (.leaf d)
  | node {a:Addr} {vs:List V} {xs:List NT}:H a=some (.lst vs)->NAll K G H vs xs->NOk K G H (.ref a) (.node a xs)
inductive NAll (K:PySem.W.Frag) (G H:Hp):List V->List NT->Prop
  | nil:NAll K G H [] []
  | cons {v:V} {x:NT} {vs:List V} {xs:List NT}:NOk K G H v x->NAll K G H vs xs->NAll K G H (v::vs) (x::xs)
end
section
variable {K:PySem.W.Frag} {G G' H H':Hp}
mutual
theorem NOk.keep (e:Ex G G'):∀ {v:V} {t:NT},(∀ a∈t.as,H' a=H a)->NOk K G H v t->NOk K G' H' v t
  | _,.leaf _,_,.leaf h=>.leaf (h.mono e)
  | .ref a,.node _ _,k,.node h r=>.node (by rw [k a (by rw [NT.as];exact List.mem_cons_self ..)];exact h) (NAll.keep e (fun b hb=>k b (by rw [NT.as];exact List.mem_cons_of_mem _ hb)) r)
theorem NAll.keep (e:Ex G G'):∀ {vs:List V} {ts:List NT},(∀ a∈NT.asL ts,H' a=H a)->NAll K G H vs ts->NAll K G' H' vs ts
  | _,_,_,.nil=>.nil
  | _,_,k,.cons h r=>.cons (NOk.keep e (fun b hb=>k b (by rw [NT.asL];exact List.mem_append_left _ hb)) h) (NAll.keep e (fun b hb=>k b (by rw [NT.asL];exact List.mem_append_right _ hb)) r)
end
mutual
theorem NOk.pub (e:Ex G G'):∀ {v:V} {t:NT},(∀ a∈t.as,G' a=H a)->NOk K G H v t->DOk K G' v t.d
  | _,.leaf _,_,.leaf h=>by rw [NT.d];exact h.mono e
  | .ref a,.node _ _,k,.node h r=>by
    rw [NT.d]
    exact .lst (by rw [k a (by rw [NT.as];exact List.mem_cons_self ..)];exact h) (NAll.pub e (fun b hb=>k b (by rw [NT.as];exact List.mem_cons_of_mem _ hb)) r)
theorem NAll.pub (e:Ex G G'):∀ {vs:List V} {ts:List NT},(∀ a∈NT.asL ts,G' a=H a)->NAll K G H vs ts->DAll K G' vs (NT.dL ts)
  | _,_,_,.nil=>by rw [NT.dL];exact .nil
  | _,_,k,.cons h r=>by
    rw [NT.dL]
    exact .cons (NOk.pub e (fun b hb=>k b (by rw [NT.asL];exact List.mem_append_left _ hb)) h) (NAll.pub e (fun b hb=>k b (by rw [NT.asL];exact List.mem_append_right _ hb)) r)
end
mutual
theorem NOk.lst:∀ {v:V} {t:NT},NOk K G H v t->∀ a∈t.as,∃ vs,H a=some (.lst vs)
  | _,_,.leaf _,a,m=>by rw [NT.as] at m;cases m
  | _,_,.node h r,b,m=>by
    rw [NT.as] at m
    rcases List.mem_cons.mp m with m | m
    · subst m;exact ⟨_,h⟩
    · exact NAll.lst r b m
theorem NAll.lst:∀ {vs:List V} {ts:List NT},NAll K G H vs ts->∀ a∈NT.asL ts,∃ vs,H a=some (.lst vs)
  | _,_,.nil,a,m=>by rw [NT.asL] at m;cases m
  | _,_,.cons h r,b,m=>by
    rw [NT.asL] at m
    rcases List.mem_append.mp m with m | m
    · exact NOk.lst h b m
    · exact NAll.lst r b m
end
end
def nestG (x:Addr) (t:NT):GR:=⟨t.as,fun K G H=>NOk K G H (.ref x) t/\t.as.Nodup,fun K G G' H H' e k h=>⟨h.1.keep e k,h.2⟩⟩
mutual
def D.flat:D->Bool
  | .lst _=>false
  | .dk _=>false
  | .dt _=>false
  | .tup ds=>D.flatL ds
  | .ins _ fs=>D.flatF fs
  | _=>true
def D.flatL:List D->Bool
  | []=>true
  | x::r=>D.flat x && D.flatL r
def D.flatF:List (Str × D)->Bool
  | []=>true
  | (_,x)::r=>D.flat x && D.flatF r
end
def unP (G:Hp) (as:List Addr):Hp:=fun a=>if a∈as then none else G a
def puB (G H:Hp) (as:List Addr):Hp:=fun a=>if a∈as then H a else G a
section
variable {K:PySem.W.Frag} {G G1 H H1:Hp} {as:List Addr}
theorem ahQ {a:Addr} (m:a∈as):unP G as a=none:=by unfold unP;rw [if_pos m]
theorem ady {a:Addr} (m:a∉as):unP G as a=G a:=by unfold unP;rw [if_neg m]
theorem afE {a:Addr} (m:a∈as):puB G H as a=H a:=by unfold puB;rw [if_pos m]
theorem acs {a:Addr} (m:a∉as):puB G H as a=G a:=by unfold puB;rw [if_neg m]
theorem acx {a:Addr} {o:HO} (ls:∀ b∈as,∃ vs,G b=some (.lst vs)) (e:G a=some o) (n:∀ vs,o≠.lst vs):unP G as a=some o:=by
  rw [ady (fun m=>by obtain ⟨vs,q⟩:=ls a m;rw [e] at q;exact n vs (Option.some.inj q))];exact e
theorem amE:Ex (unP G as) G:=fun a o e=>by
  by_cases m:a∈as
  · rw [ahQ m] at e;cases e
  · rw [ady m] at e;exact e
theorem akX (g:∀ a∈as,G a=none):Ex G (puB G H as):=fun a o e=>by
  rw [acs (fun m=>by rw [g a m] at e;cases e)];exact e
mutual
theorem DOk.unP (ls:∀ b∈as,∃ vs,G b=some (.lst vs)):∀ {v:V} {d:D},d.flat=true->DOk K G v d->DOk K (DL.unP G as) v d
  | _,_,_,.non=>.non
  | _,_,_,.bl b=>.bl b
  | _,_,_,.int i=>.int i
  | _,_,_,.str x=>.str x
  | _,_,f,.lst _ _=>by rw [D.flat] at f;cases f
  | _,_,f,.tup h a=>.tup (by
      rcases h with (h | ⟨o,h⟩) | h
      · exact .inl (.inl (acx ls h (fun _ z=>by cases z)))
      · exact .inl (.inr ⟨o,acx ls h (fun _ z=>by cases z)⟩)
      · exact .inr h) (DAll.unP ls (by rw [D.flat] at f;exact f) a)
  | _,_,f,.ins h h2 a=>.ins (acx ls h (fun _ z=>by cases z)) (acx ls h2 (fun _ z=>by cases z)) (FAll.unP ls (by rw [D.flat] at f;exact f) a)
  | _,_,_,.any v=>.any v
  | _,_,f,.dk _ _=>by rw [D.flat] at f;cases f
  | _,_,f,.dt _ _=>by rw [D.flat] at f;cases f
  | _,_,_,.raw v=>.raw v
  | _,_,_,.kt h=>.kt (acx ls h (fun _ z=>by cases z))
theorem DAll.unP (ls:∀ b∈as,∃ vs,G b=some (.lst vs)):∀ {vs:List V} {ds:List D},D.flatL ds=true->DAll K G vs ds->DAll K (DL.unP G as) vs ds
  | _,_,_,.nil=>.nil
  | _,_,f,.cons h r=>by
    rw [D.flatL,Bool.and_eq_true] at f
    exact .cons (DOk.unP ls f.1 h) (DAll.unP ls f.2 r)
theorem FAll.unP (ls:∀ b∈as,∃ vs,G b=some (.lst vs)):∀ {vs:List (Str × V)} {fs:List (Str × D)},D.flatF fs=true->FAll K G vs fs->FAll K (DL.unP G as) vs fs
  | _,_,_,.nil=>.nil
  | _,_,f,.cons h r=>by
    rw [D.flatF,Bool.and_eq_true] at f
    exact .cons (DOk.unP ls f.1 h) (FAll.unP ls f.2 r)
end
theorem KOk.unP {a:Addr} {k:Kd} (h:KOk K G1 H1 a k) (old:KOk K G H a k) (ex:Ex G (DL.unP G1 as)) (ls:∀ b∈as,∃ vs,G1 b=some (.lst vs)):KOk K (DL.unP G1 as) H1 a k:=by
  have gn:DL.unP G1 as a=none:=by
    by_cases m:a∈as
    · exact ahQ m
    · rw [ady m];exact h.g
  cases k with
  | src c=>
    obtain ⟨_,ns,i,r,sd,n,h1,h2,h3,h4⟩:=h
    obtain ⟨_,ms,_,_,_,_,_,k2,k3,_⟩:=old
    exact ⟨gn,ms,i,r,sd,n,h1,ex_l ex k2,k3,h4⟩
  | tab z=>
    obtain ⟨_,ps,h1,h2,h3⟩:=h
    exact ⟨gn,ps,h1,h2,fun pos cv hc=>let ⟨c,e1,e2⟩:=h3 pos cv hc;⟨c,e1,acx ls e2 (fun _ z=>by unfold LamX.CodeO at z;cases z)⟩⟩
  | mt C=>
    obtain ⟨_,⟨dx,vs,h1,h2⟩ | h⟩:=h
    · exact ⟨gn,.inl ⟨dx,vs,h1,acx ls h2 (fun _ z=>by cases z)⟩⟩
    · exact ⟨gn,.inr h⟩
end
section
variable {K:PySem.W.Frag} {W:WX} {G G1 H H1:Hp} {so:So} {σ σ1:L2.St} {sl s1:DSt} {x:Addr} {t:NT} {i:Nat}
theorem Rep.lendG (r:Rep K G so σ H sl) (e:sl[i]?=some (some (.gh x (nestG x t)))) (nm:noMu (sl.set i none)=true) :
    Rep K (puB G H t.as) so.drop σ H (sl.set i (some (.d t.d)))/\(∀ a,Own (sl.set i (some (.d t.d))) σ a ↔ Own sl σ a)/\σ[i]?=some (some (.ref x))/\(∀ a∈t.as,(a,Kd.mt 0)∈so)/\(∀ a∈t.as,G a=none)/\NOk K G H (.ref x) t/\t.as.Nodup:=by
  obtain ⟨v0,e1,rfl,mx,nk,nd⟩:=r.slots i _ e
  have mx:∀ a∈t.as,(a,Kd.mt 0)∈so/\H a≠none:=mx
  have nk:NOk K G H (.ref x) t:=nk
  have gn:∀ a∈t.as,G a=none:=fun a m=>(r.h.vol a _ (mx a m).1).g
  have ex:Ex G (puB G H t.as):=akX gn
  have own:∀ a,Own (sl.set i (some (.d t.d))) σ a ↔ Own sl σ a:=fun a=>⟨fun ⟨j,o,f1,f2⟩=>by
    rcases get_set f1 with ⟨_,z⟩ | ⟨_,z⟩
    · cases z
    · exact ⟨j,o,z,f2⟩,fun ⟨j,o,f1,f2⟩=>⟨j,o,by
      rw [List.getElem?_set_ne (fun z=>by subst z;rw [e] at f1;cases f1)];exact f1,f2⟩⟩
  have nin:∀ a,so.drop.Vol a->a∉t.as:=fun a ⟨k,m⟩ w=>(So.drop_nq (So.drop_mt r.h.ok (mx a w).1)) ⟨k,m⟩
  refine ⟨⟨⟨fun a o q=>?_,fun a k q=>?_,r.h.ok.drop,fun a xs q=>ex _ _ (r.h.tp a xs q)⟩,by rw [List.length_set];exact r.len,fun j dv f=>?_,fun j k o o' b f1 f2 f3 f4=>?_,fun j o b f1 f2 z=>?_,fun j o f=>?_⟩,own,e1,fun a m=>(mx a m).1,gn,nk,nd⟩
  · by_cases m:a∈t.as
    · rw [afE m] at q;exact q
    · rw [acs m] at q;exact r.h.ex a o q
  · have v:=r.h.vol a k (So.drop_sub q)
    exact v.keep ex (by rw [acs (nin a ⟨k,q⟩)];exact v.g) rfl
  · rcases get_set f with ⟨rfl,z⟩ | ⟨nj,z⟩
    · cases z
      exact ⟨_,e1,nk.pub ex (fun a m=>afE m)⟩
    · obtain ⟨w,w1,w2⟩:=r.slots j dv z
      refine ⟨w,w1,?_⟩
      have nmu:∀ y D gs,dv≠.mu y D gs:=fun y D gs ed=>by
        subst ed
        refine adk nm (j:=j) (y:=y) (D:=D) (gs:=gs) ?_
        rw [List.getElem?_set_ne (fun z=>nj z.symm)];exact z
      have ngh:∀ y g,dv≠.gh y g:=fun y g ed=>by
        subst ed
        refine acK nm (j:=j) (y:=y) (g:=g) ?_
        rw [List.getElem?_set_ne (fun z=>nj z.symm)];exact z
      have ww:VOk K G so H w dv:=SlOk.val w2 nmu ngh
      refine VOk.slot (VOk.drop (ww.keep ex (fun a o q _=>q) fun a o ed q=>?_))
      subst ed
      obtain ⟨b,q2,g,s,_⟩:=ww
      rw [q] at q2;cases q2
      rw [acs (fun m=>s ⟨_,(mx a m).1⟩)];exact g
  · have g:∀ (m:Nat) (o3:OO),(sl.set i (some (.d t.d)))[m]?=some (some (.own o3))->sl[m]?=some (some (.own o3)):=fun m o3 em=>by
      rcases get_set em with ⟨_,q⟩ | ⟨_,q⟩
      · cases q
      · exact q
    exact r.sep j k o o' b (g _ _ f1) (g _ _ f2) f3 f4
  · rcases get_set f1 with ⟨rfl,q⟩ | ⟨_,q⟩
    · cases q
    · exact r.bor j o b q f2 ((own _).mp z)
  · rcases get_set f with ⟨_,q⟩ | ⟨_,q⟩
    · cases q
    · exact r.nse j o q
theorem Post.backG (r:Rep K G so σ H sl) (e:sl[i]?=some (some (.gh x (nestG x t)))) (nm:noMu (sl.set i none)=true) (p:Post K (puB G H t.as) so.drop σ H (sl.set i (some (.d t.d))) H1 G1 (sl.set i (some (.d t.d)))) :
    Post K G so σ H sl H1 (unP G1 t.as) sl/\(∀ a∈t.as,∃ vs,G1 a=some (.lst vs)):=by
  obtain ⟨r2,own,e1,mt,gn,nk,nd⟩:=r.lendG e nm
  have ls:∀ a∈t.as,∃ vs,G1 a=some (.lst vs):=fun a m=>by
    obtain ⟨vs,q⟩:=nk.lst a m
    exact ⟨vs,p.ex _ _ (by rw [afE m];exact q)⟩
  have ex:Ex G (unP G1 t.as):=fun a o q=>by
    have m:a∉t.as:=fun m=>by rw [gn a m] at q;cases q
    rw [ady m]
    exact p.ex _ _ (by rw [acs m];exact q)
  have kp:∀ a o,H a=some o->so.Nt a->H1 a=some o:=fun a o q n=>p.keep a o q (So.drop_nt n)
  have same:∀ a∈t.as,H1 a=H a:=fun a m=>by
    obtain ⟨vs,q⟩:=nk.lst a m
    rw [q]
    exact p.rep.h.ex _ _ (p.ex _ _ (by rw [afE m];exact q))
  have hd:HRep K (unP G1 t.as) so.drop H1:=⟨fun a o q=>p.rep.h.ex _ _ (amE _ _ q),fun a k q=>KOk.unP (p.rep.h.vol a k q) (r.h.vol a k (So.drop_sub q)) ex ls,r.h.ok.drop,fun a xs q=>acx ls (p.rep.h.tp a xs q) (fun _ z=>by cases z)⟩
  have hr:HRep K (unP G1 t.as) so H1:=r.h.back ex hd (fun a C o m n q=>p.keep a o q n) (fun a C m n h g=>by
    by_cases w:a∈t.as
    · exact ahQ w
    · rw [ady w]
      exact p.frm a h (by rw [acs w];exact g) n fun z=>(r.nown ((own a).mp z)).2.2 ⟨_,m⟩)
  refine ⟨⟨ex,⟨hr,r.len,fun j dv f=>?_,r.sep,r.bor,r.nse⟩,kp,fun a n g s w=>?_,fun a z=>z,fun j o z=>⟨o,z⟩⟩,ls⟩
  · obtain ⟨w,w1,w2⟩:=r.slots j dv f
    refine ⟨w,w1,?_⟩
    by_cases q:j=i
    · subst q
      rw [e] at f
      cases f
      obtain ⟨q1,q2,q3⟩:=w2
      exact ⟨q1,fun a m=>⟨(q2 a m).1,by rw [same a m];exact (q2 a m).2⟩,(nestG x t).st K G _ H _ ex same q3⟩
    · have nmu:∀ y D gs,dv≠.mu y D gs:=fun y D gs ed=>by
        subst ed
        refine adk nm (j:=j) (y:=y) (D:=D) (gs:=gs) ?_
        rw [List.getElem?_set_ne (fun z=>q z.symm)];exact f
      have ngh:∀ y g,dv≠.gh y g:=fun y g ed=>by
        subst ed
        refine acK nm (j:=j) (y:=y) (g:=g) ?_
        rw [List.getElem?_set_ne (fun z=>q z.symm)];exact f
      have ww:VOk K G so H w dv:=SlOk.val w2 nmu ngh
      refine VOk.slot (ww.keep ex kp fun a o ed q=>?_)
      subst ed
      subst q
      obtain ⟨n,g,s⟩:=r.nown ⟨j,o,f,w1⟩
      have m:a∉t.as:=fun m=>s ⟨_,mt a m⟩
      obtain ⟨u,u1,u2⟩:=p.rep.slots j (.own o) (by rw [List.getElem?_set_ne (fun z=>q z.symm)];exact f)
      rw [w1] at u1;cases u1
      obtain ⟨b,q3,g3,_,_⟩:=u2
      cases q3
      rw [ady m];exact g3
  · by_cases m:a∈t.as
    · exact ahQ m
    · rw [ady m]
      exact p.frm a n (by rw [acs m];exact g) (So.drop_nt s) fun z=>w ((own a).mp z)
end
def dLendG (i:Nat) (te:TD):TD:=fun sl Q E=>∃ x t,sl[i]?=some (some (.gh x (nestG x t)))/\noMu (sl.set i none)=true/\
  te (sl.set i (some (.d t.d))) (fun dv s1=>s1=sl.set i (some (.d t.d))/\∃ y:D,dv=.d y/\y.flat=true/\Q dv sl) (fun cls fs s1=>s1=sl.set i (some (.d t.d))/\D.flatF fs=true/\E cls fs sl)
def dLendGT (i:Nat) (te:TDT):TDT:=fun sl Q E=>∃ x t,sl[i]?=some (some (.gh x (nestG x t)))/\noMu (sl.set i none)=true/\
  te (sl.set i (some (.d t.d))) (fun b s1=>s1=sl.set i (some (.d t.d))/\Q b sl) (fun cls fs s1=>s1=sl.set i (some (.d t.d))/\D.flatF fs=true/\E cls fs sl)
section
variable {K:PySem.W.Frag} {W:WX} {G H:Hp} {so:So} {σ:L2.St} {sl:DSt} {x:Addr} {t:NT} {i:Nat} {X:Cx} {e:Expr} {te:TD} {tt:TDT}
theorem XOk.lendG {E:XP} (r:Rep K G so σ H sl) (g:sl[i]?=some (some (.gh x (nestG x t)))) (nm:noMu (sl.set i none)=true) (h:XOk K W G so σ H sl E) :
    XOk K W (puB G H t.as) so.drop σ H (sl.set i (some (.d t.d))) (fun cls fs s1=>s1=sl.set i (some (.d t.d))/\D.flatF fs=true/\E cls fs sl):=fun cls d H1 G1 fs s1 p xd ⟨q1,q2,q3⟩=>by
  subst q1
  obtain ⟨b,ls⟩:=Post.backG r g nm p
  refine h cls d H1 _ fs sl b ?_ q3
  cases d with
  | none=>exact xd
  | some dx=>obtain ⟨vs,k1,k2⟩:=xd;exact ⟨vs,k1,FAll.unP ls q2 k2⟩
theorem akH (h:DE X W e te) (i:Nat):DE X W e (dLendG i te):=aa6 h fun σ H R ⟨G,so,sl,Q,E,rep,⟨x,t,g,nm,q⟩,hq,hx⟩=>by
  obtain ⟨r2,own,e1,mt,gn,nk,nd⟩:=rep.lendG g nm
  refine ⟨_,_,_,_,_,r2,q,fun v H1 G1 dv s1 p ⟨q1,y,q2,q3,q4⟩=>?_,hx.lendG rep g nm⟩
  subst q1
  subst q2
  obtain ⟨b,ls⟩:=Post.backG rep g nm p.toPost
  have pv:DOk X.K G1 v y:=p.val
  exact hq v H1 (unP G1 t.as) (.d y) sl { b with val:=DOk.unP ls q3 pv,new:=fun _ _ z=>(nomatch z),sepv:=fun _ _ z=>(by rcases z with z | z<;>cases z),nbs:=fun _ _ _ _ z=>(nomatch z) } q4
theorem akE (h:DT X W e tt) (i:Nat):DT X W e (dLendGT i tt):=afF h fun σ H R ⟨G,so,sl,Q,E,rep,⟨x,t,g,nm,q⟩,hq,hx⟩=>by
  obtain ⟨r2,own,e1,mt,gn,nk,nd⟩:=rep.lendG g nm
  refine ⟨_,_,_,_,_,r2,q,fun b H1 G1 s1 p ⟨q1,q2⟩=>?_,hx.lendG rep g nm⟩
  subst q1
  exact hq b H1 _ sl (Post.backG rep g nm p).1 q2
end
end DL
set_option maxHeartbeats 4000000
namespace DL
open PySem PySem.Spec PyProof.Rows L2
abbrev nRow (p:Addr × List D):NT:=.node p.1 (p.2.map .leaf)
section
variable {K:PySem.W.Frag} {G G' H H':Hp}
theorem NAll.len:∀ {vs:List V} {ps:List (Addr × List D)},NAll K G H vs (ps.map nRow)->vs.length=ps.length
  | _,[],h=>by cases h;rfl
  | _,p::r,h=>by
    cases h with
    | cons h t=>exact congrArg (· + 1) (NAll.len t)
theorem NAll.leaves:∀ {vs:List V} {ds:List D},DAll K G vs ds->NAll K G H vs (ds.map .leaf)
  | _,_,.nil=>.nil
  | _,_,.cons h t=>.cons (.leaf h) (NAll.leaves t)
theorem NAll.app:∀ {vs ws:List V} {ds es:List NT},NAll K G H vs ds->NAll K G H ws es->NAll K G H (vs++ws) (ds++es)
  | _,_,_,_,.nil,s=>s
  | _,_,_,_,.cons h t,s=>.cons h (NAll.app t s)
theorem ad4:∀ (ds:List D),NT.asL (ds.map .leaf)=[]
  | []=>by rw [List.map_nil,NT.asL]
  | d::r=>by rw [List.map_cons,NT.asL,NT.as,ad4 r];rfl
theorem adr:∀ (ps:List (Addr × List D)),NT.asL (ps.map nRow)=ps.map (·.1)
  | []=>by rw [List.map_nil,NT.asL];rfl
  | p::r=>by rw [List.map_cons,NT.asL,NT.as,ad4,adr r];rfl
theorem ahe:∀ (ds:List D),NT.dL (ds.map .leaf)=ds
  | []=>by rw [List.map_nil,NT.dL]
  | d::r=>by rw [List.map_cons,NT.dL,NT.d,ahe r]
theorem ajY:∀ (ps:List (Addr × List D)),NT.dL (ps.map nRow)=ps.map fun p=>D.lst p.2
  | []=>by rw [List.map_nil,NT.dL];rfl
  | p::r=>by rw [List.map_cons,NT.dL,NT.d,ahe,ajY r];rfl
end
structure NstOk (K:PySem.W.Frag) (G H:Hp) (so:So) (sl0 sl:DSt) (σ:L2.St) (H1:Hp) (C:Addr) (us:List V) (ps:List (Addr × List D)):Prop where
  ok:NAll K G H us (ps.map nRow)
  own:∀ p∈ps,so.Nt p.1/\G p.1=none/\p.1≠C/\¬ Own sl σ p.1
  new:∀ p∈ps,H1 p.1=none\/Own sl0 σ p.1
  nd:(ps.map (·.1)).Nodup
section
variable {K:PySem.W.Frag} {G G' H H' H1:Hp} {so:So} {sl0 sl sl':DSt} {σ:L2.St} {C:Addr} {us:List V} {ps:List (Addr × List D)}
theorem NstOk.there (h:NstOk K G H so sl0 sl σ H1 C us ps) (p:Addr × List D) (hp:p∈ps):H p.1≠none:=by
  obtain ⟨vs,q⟩:=NAll.lst h.ok p.1 (by rw [adr];exact List.mem_map_of_mem hp)
  rw [q];simp
theorem NstOk.step (h:NstOk K G H so sl0 sl σ H1 C us ps) (e:Ex G G') (k:∀ a o,H a=some o->so.Nt a->H' a=some o) (f:∀ a,H a≠none->G a=none->so.Nt a->¬ Own sl σ a->G' a=none) (s:∀ a,Own sl' σ a->Own sl σ a):NstOk K G' H' so sl0 sl' σ H1 C us ps:=
  ⟨h.ok.keep e (fun a m=>by
    rw [adr] at m
    obtain ⟨p,hp,rfl⟩:=List.mem_map.mp m
    exact aaU k (h.there p hp) (h.own p hp).1),fun p hp=>by
    obtain ⟨m1,m2,m3,m4⟩:=h.own p hp
    exact ⟨m1,f _ (h.there p hp) m2 m1 m4,m3,fun z=>m4 (s _ z)⟩,h.new,h.nd⟩
theorem NstOk.add {a:Addr} {es:List D} {vs:List V} {u:HO} (h:NstOk K G H so sl0 sl σ H1 C us ps) (ni:∀ p∈ps,p.1≠a) (aC:a≠C) (sa:so.Nt a) (ga:G a=none) (fr:H1 a=none\/Own sl0 σ a) (no:¬ Own sl σ a) (ha:H a=some (.lst vs)) (da:DAll K G vs es) :
    NstOk K G (upd H C u) so sl0 sl σ H1 C (us++[V.ref a]) (ps++[(a,es)]):=by
  have kp:∀ b∈NT.asL ((ps++[(a,es)]).map nRow),(upd H C u) b=H b:=fun b m=>by
    rw [adr] at m
    obtain ⟨p,hp,rfl⟩:=List.mem_map.mp m
    refine upd_ne ?_
    rcases List.mem_append.mp hp with hp | hp
    · exact (h.own p hp).2.2.1
    · rw [List.mem_singleton.mp hp];exact aC
  refine ⟨NAll.keep (Ex.refl G) kp ?_,fun p hp=>?_,fun p hp=>?_,?_⟩
  · rw [List.map_append]
    exact h.ok.app (.cons (.node ha (NAll.leaves da)) .nil)
  · rcases List.mem_append.mp hp with hp | hp
    · exact h.own p hp
    · rw [List.mem_singleton.mp hp];exact ⟨sa,ga,aC,no⟩
  · rcases List.mem_append.mp hp with hp | hp
    · exact h.new p hp
    · rw [List.mem_singleton.mp hp];exact fr
  · rw [List.map_append]
    refine List.nodup_append.mpr ⟨h.nd,by simp,fun x hx y hy=>?_⟩
    obtain ⟨p,hp,rfl⟩:=List.mem_map.mp hx
    simp at hy
    subst hy
    exact ni p hp
end
def amq (g:TDG) (tt:TDT) (te:TD) (vs:List Nat) (Q:List (List D)->DSt->Prop):List D->List (List D)->DSt->Prop
  | [],acc,sl=>Q acc sl
  | d::r,acc,sl=>g d sl fun s1=>tt s1 (fun b s2=>Br b (te s2 (fun x s3=>match x with
    | .own (.lst es)=>acc.length < szl/\amq g tt te vs Q r (acc++[es]) (wipeD s3 vs)
    | _=>False) fun _ _ _=>False) (amq g tt te vs Q r acc (wipeD s2 vs))) fun _ _ _=>False
@[irreducible] def dLcR (g:TDG) (tt:TDT) (te:TD) (vs:List Nat) (Q:List (List D)->DSt->Prop) (ds:List D) (acc:List (List D)) (sl:DSt):Prop:=amq g tt te vs Q ds acc sl
theorem lcR_nil {g:TDG} {tt:TDT} {te:TD} {vs:List Nat} {Q:List (List D)->DSt->Prop} {acc:List (List D)} {sl:DSt}:dLcR g tt te vs Q [] acc sl=Q acc sl:=by unfold dLcR;rfl
theorem ah3 {g:TDG} {tt:TDT} {te:TD} {vs:List Nat} {Q:List (List D)->DSt->Prop} {d:D} {r:List D} {acc:List (List D)} {sl:DSt}:dLcR g tt te vs Q (d::r) acc sl=g d sl fun s1=>tt s1 (fun b s2=>Br b (te s2 (fun x s3=>match x with
    | .own (.lst es)=>acc.length < szl/\dLcR g tt te vs Q r (acc++[es]) (wipeD s3 vs)
    | _=>False) fun _ _ _=>False) (dLcR g tt te vs Q r acc (wipeD s2 vs))) fun _ _ _=>False:=by unfold dLcR;rfl
section
variable {W:WX} {vs0:List Nat} {ti:TDI} {g:TDG} {tt:TDT} {te:TD} {ix:List Nat}
theorem amB {K:PySem.W.Frag} {n:Nat} {g':TG} {σ:L2.St} {H G:Hp} {so:So} {sl:DSt} {E:XP} {Q:List (List D)->DSt->Prop} {R:VK} (vs:List Nat) (hl:σ.length=n) (sg:GSem K n ix g' g) (hix:∀ j,j∈ix->j∈vs) (rep:Rep K G so σ H sl)
    (q:ti sl (fun ds s1=>dLcR g tt te vs Q ds [] (wipeD s1 vs)) E) (hx:XOk K W G so σ H sl E)
    (hq:∀ (C:Addr) (H' G':Hp) (sl':DSt) (us:List V) (ps:List (Addr × List D)),Post K G so σ H sl H' G' sl'->H C=none->so.Nt C->H' C=some (.lst us)->G' C=none->NAll K G' H' us (ps.map nRow)->(∀ p∈ps,so.Nt p.1/\G' p.1=none/\p.1≠C/\¬ Own sl' σ p.1)->(∀ p∈ps,H p.1=none\/Own sl σ p.1)->(ps.map (·.1)).Nodup->Q (ps.map (·.2)) sl'->R (.ref C) H') :
    tLc (upI K W ti) g' (upT K W0 tt) (up K W0 te) vs σ H R:=by
  refine ⟨G,so,sl,_,E,rep,q,fun J H1 G1 ds s1 p0 it q1=>?_,hx⟩
  obtain ⟨ps,prot,goes,stops,yields⟩:=it
  intro C hC
  have nsC:so.Nt C:=p0.rep.h.there hC
  have rw1:=p0.rep.wipe vs
  have psC:∀ a∈ps,a≠C:=fun a ha z=>(prot a ha).1 (z ▸ hC)
  refine ⟨fun i m H'=>m=ds.length - i/\i<=ds.length/\∃ G' sl' us ps,Post K G1 so (L2.wipe σ vs) H1 (wipeD s1 vs) H' G' sl'/\H' C=some (.lst us)/\G' C=none/\NstOk K G' H' so (wipeD s1 vs) sl' (L2.wipe σ vs) H1 C us ps/\dLcR g tt te vs Q (ds.drop i) (ps.map (·.2)) sl',
    ⟨ds.length,by simp,Nat.zero_le _,G1,_,[],[],?_,upd_same,p0.rep.h.ex.free hC,⟨.nil,by simp,by simp,.nil⟩,q1⟩,?_⟩
  · have pv:=PostV.list (K:=K) (G:=G1) (so:=so) (ds:=[]) rw1.h hC .nil
    exact (pv.slots rw1).toPost
  rintro i m H' ⟨rfl,hi,G',sl',us,qs,t,hCl,gC,al,q2⟩
  have same:∀ a∈ps,H' a=H1 a:=fun a ha=>by
    obtain ⟨n1,s,w⟩:=prot a ha
    exact aaU t.keep n1 s
  have noC:∀ {sl'':DSt} {σ'':L2.St},(∀ a,Own sl'' σ'' a->Own (wipeD s1 vs) (L2.wipe σ vs) a)->¬ Own sl'' σ'' C:=fun f z=>(p0.rep.nown (aaT (f C z))).1 hC
  have borC:∀ (j:Nat) (o:OO),(wipeD s1 vs)[j]?=some (some (.bor o))->(L2.wipe σ vs)[j]?=some (some (.ref C))->False:=fun j o e1 e2=>by
    obtain ⟨v,f1,f2⟩:=rw1.slots j _ e1
    rw [e2] at f1;cases f1
    obtain ⟨b,z,_,k⟩:=f2
    cases z
    exact k.there hC
  by_cases hlt:i < ds.length
  · refine .inr ⟨goes i H' hlt same,fun H''=>∃ G'' sl'' us' ps',Post K G1 so (L2.wipe σ vs) H1 (wipeD s1 vs) H'' G'' sl''/\H'' C=some (.lst us')/\G'' C=none/\NstOk K G'' H'' so (wipeD s1 vs) sl'' (L2.wipe σ vs) H1 C us' ps'/\dLcR g tt te vs Q (ds.drop (i + 1)) (ps'.map (·.2)) sl'',
      fun H'' ⟨G'',sl'',us',acc',h1,h2,h3,h4,h5⟩=>⟨ds.length - (i + 1),by omega,rfl,hlt,G'',sl'',us',acc',h1,h2,h3,h4,h5⟩,fun x H2 y=>?_⟩
    obtain ⟨d,G2,ed,pv⟩:=yields i H' x H2 G' same t.ex t.rep.h y hlt
    have pe:=pv.slots t.rep
    have C2:H2 C=some (.lst us):=pe.keep C _ hCl nsC
    have g2:G2 C=none:=pe.frm C (by rw [hCl];simp) gC nsC (noC t.sub)
    rw [List.drop_eq_getElem_cons hlt] at q2
    have ed':ds[i]=d:=by rw [List.getElem?_eq_getElem hlt] at ed;exact Option.some.inj ed
    rw [ed',ah3] at q2
    refine sg G2 so _ H2 sl' x d _ _ ((wipe_length σ vs).trans hl) pe.rep pe.val q2 fun σ3 sl3 t3 u3 q3=>?_
    have e3:L2.wipe σ3 vs=L2.wipe σ vs:=by
      rw [<- afC (σ:=σ) vs]
      exact ahi t3.ln fun j hj=>(u3 j fun z=>hj (hix j z)).1
    have sub3:∀ a,Own (wipeD sl3 vs) (L2.wipe σ3 vs) a->Own (wipeD s1 vs) (L2.wipe σ vs) a:=fun a z=>by
      rw [e3] at z
      by_cases w:Own sl' (L2.wipe σ vs) a
      · exact t.sub a w
      · obtain ⟨j,o,z1,z2⟩:=z
        have z2':σ3[j]?=some (some (.ref a)):=by
          rw [<- e3] at z2;exact (wipe_some z2).1
        have ow3:Own sl3 σ3 a:=⟨j,o,(aaj z1).1,z2'⟩
        obtain ⟨n1,g1,s1'⟩:=t3.rep.nown ow3
        exact absurd ow3 (t3.sub a n1 s1' w)
    have sub3':∀ a,Own sl3 σ3 a->Own sl' (L2.wipe σ vs) a:=fun a z=>by
      by_cases w:Own sl' (L2.wipe σ vs) a
      · exact w
      · obtain ⟨n1,g1,s1'⟩:=t3.rep.nown z
        exact absurd z (t3.sub a n1 s1' w)
    have bs3:∀ (j:Nat) (o:OO),sl3[j]?=some (some (.bor o))->j∉vs->∃ o',(wipeD s1 vs)[j]?=some (some (.bor o')):=fun j o e n=>by
      rw [(u3 j fun z=>n (hix j z)).2] at e
      exact t.bsub j o e
    refine ⟨e3,G2,so,sl3,_,fun _ _ _=>False,t3.rep,q3,fun b H4 G4 s4 p4 q4=>?_,fun _ _ _ _ _ _ _ _ z=>z⟩
    have C4:H4 C=some (.lst us):=p4.keep C _ C2 nsC
    have n3C:¬ Own sl3 σ3 C:=fun z=>noC t.sub (sub3' C z)
    have g4:G4 C=none:=p4.frm C (by rw [C2];simp) g2 nsC n3C
    have k4:∀ a o,H1 a=some o->so.Nt a->H4 a=some o:=fun a o e s=>p4.keep a o (pe.keep a o (t.keep a o e s) s) s
    have f4:∀ a,H1 a≠none->G1 a=none->so.Nt a->¬ Own (wipeD s1 vs) (L2.wipe σ vs) a->G4 a=none:=fun a n1 g1 s w=>by
      have n2:¬ Own sl' (L2.wipe σ vs) a:=fun z=>w (t.sub a z)
      have h':H' a≠none:=by rw [aaU t.keep n1 s];exact n1
      have h2:H2 a≠none:=by rw [aaU pe.keep h' s];exact h'
      exact p4.frm a h2 (pe.frm a h' (t.frm a n1 g1 s w) s n2) s fun z=>n2 (sub3' a z)
    have bs4:∀ (j:Nat) (o:OO),s4[j]?=some (some (.bor o))->j∉vs->∃ o',(wipeD s1 vs)[j]?=some (some (.bor o')):=fun j o e n=>by
      obtain ⟨o1,e1⟩:=p4.bsub j o e
      exact bs3 j o1 e1 n
    cases b with
    | false=>
      refine iteF ⟨G4,wipeD s4 vs,us,qs,⟨t.ex.trans (pe.ex.trans p4.ex),?_,k4,f4,fun a z=>?_,fun j o e=>bs4 j o (aaj e).1 (aaj e).2⟩,C4,g4,al.step (pe.ex.trans p4.ex) (fun a o e s=>p4.keep a o (pe.keep a o e s) s) (fun a n g s w=>p4.frm a (by rw [aaU pe.keep n s];exact n) (pe.frm a n g s w) s fun z=>w (sub3' a z)) (fun a z=>sub3' a (p4.sub a (aaT (vs:=vs) (by rw [e3];exact z)))),(brf q4)⟩
      · have r:=p4.rep.wipe vs;rw [e3] at r;exact r
      · refine t.sub a (sub3' a (p4.sub a (aaT (vs:=vs) ?_)))
        rw [e3];exact z
    | true=>
      refine iteT ⟨G4,so,s4,_,fun _ _ _=>False,p4.rep,(brt q4),fun y H5 G6 dy s5 p5 q5=>?_,fun _ _ _ _ _ _ _ _ z=>z⟩
      have wv:=p5.val
      split at q5
      · rename_i es
        have n4C:¬ Own s4 σ3 C:=fun z=>n3C (p4.sub C z)
        have C5:H5 C=some (.lst us):=p5.keep C _ C4 nsC
        have g5:G6 C=none:=p5.frm C (by rw [C4];simp) g4 nsC n4C
        have k5:∀ a o,H1 a=some o->so.Nt a->H5 a=some o:=fun a o e s=>p5.keep a o (k4 a o e s) s
        have f5:∀ a,H1 a≠none->G1 a=none->so.Nt a->¬ Own (wipeD s1 vs) (L2.wipe σ vs) a->G6 a=none:=fun a n1 g1 s w=>by
          have n2:¬ Own sl' (L2.wipe σ vs) a:=fun z=>w (t.sub a z)
          have h4:H4 a≠none:=by rw [aaU k4 n1 s];exact n1
          exact p5.frm a h4 (f4 a n1 g1 s w) s fun z=>n2 (sub3' a (p4.sub a z))
        have bs5:∀ (j:Nat) (o:OO),s5[j]?=some (some (.bor o))->j∉vs->∃ o',(wipeD s1 vs)[j]?=some (some (.bor o')):=fun j o e n=>by
          obtain ⟨o1,e1⟩:=p5.bsub j o e
          exact bs4 j o1 e1 n
        obtain ⟨w,yw,gw,sw,vs5,hw5,dw5⟩:=wv
        subst yw
        have nwa:H4 w=none\/Own s4 σ3 w:=p5.new w _ rfl rfl
        have noa:¬ Own s5 σ3 w:=p5.sepv w _ (.inl rfl) rfl
        have sub5:∀ b,Own (wipeD s5 vs) (L2.wipe σ vs) b->Own sl' (L2.wipe σ vs) b:=fun b z=>sub3' b (p4.sub b (p5.sub b (aaT (vs:=vs) (by rw [e3];exact z))))
        have aC:w≠C:=fun z=>by
          subst z
          rcases nwa with n | n
          · rw [C4] at n;cases n
          · exact n4C n
        have al5:NstOk K G6 H5 so (wipeD s1 vs) (wipeD s5 vs) (L2.wipe σ vs) H1 C us qs:=al.step (pe.ex.trans (p4.ex.trans p5.ex)) (fun a o e s=>p5.keep a o (p4.keep a o (pe.keep a o e s) s) s)
          (fun b n g s y=>by
            have h2:H2 b≠none:=by rw [aaU pe.keep n s];exact n
            have h4:H4 b≠none:=by rw [aaU p4.keep h2 s];exact h2
            exact p5.frm b h4 (p4.frm b h2 (pe.frm b n g s y) s fun z=>y (sub3' b z)) s fun z=>y (sub3' b (p4.sub b z))) sub5
        have fra:H1 w=none\/Own (wipeD s1 vs) (L2.wipe σ vs) w:=by
          rcases nwa with n | n
          · cases q:H1 w with
            | none=>exact .inl rfl
            | some o=>rw [k4 w o q sw] at n;cases n
          · exact .inr (t.sub w (sub3' w (p4.sub w n)))
        have nia:∀ p∈qs,p.1≠w:=fun p hp z=>by
          obtain ⟨m1,m2,m3,m4⟩:=al.own p hp
          have hb:H' p.1≠none:=al.there p hp
          have h2:H2 p.1≠none:=by rw [aaU pe.keep hb m1];exact hb
          have h4:H4 p.1≠none:=by rw [aaU p4.keep h2 m1];exact h2
          rcases nwa with n | n
          · rw [z] at h4;exact h4 n
          · rw [z] at m4;exact m4 (sub3' w (p4.sub w n))
        have lu:us.length=qs.length:=al5.ok.len
        refine ⟨us,C5,by rw [lu,<- aci];have z:=q5.1;rw [List.length_map] at z;exact z,G6,wipeD s5 vs,us++[V.ref w],qs++[(w,es)],⟨t.ex.trans (pe.ex.trans (p4.ex.trans p5.ex)),?_,fun a o e s=>?_,f5,fun a z=>?_,fun j o e=>bs5 j o (aaj e).1 (aaj e).2⟩,upd_same,g5,al5.add nia aC sw gw fra (fun z=>noa (aaT (vs:=vs) (by rw [e3];exact z))) hw5 dw5,by rw [List.map_append];exact q5.2⟩
        · have r:=p5.rep.wipe vs
          rw [e3] at r
          refine ⟨⟨fun a o e=>?_,fun a k e=>?_,r.h.ok,ad7 r.h.tp (by intro _ z;cases z)⟩,r.len,fun j dv e=>?_,r.sep,r.bor,r.nse⟩
          · rw [upd_ne (ne_of_none e g5)];exact r.h.ex a o e
          · exact (r.h.vol a k e).keep (Ex.refl _) (r.h.vol a k e).g (upd_ne fun z=>nsC (z ▸ ⟨k,e⟩))
          · obtain ⟨v,f1,f2⟩:=r.slots j dv e
            refine ⟨v,f1,?_⟩
            have key:∀ a:Addr,a≠C->(upd H5 C (.lst (us++[V.ref w]))) a=H5 a:=fun a z=>upd_ne z
            cases dv with
            | d z=>exact f2
            | src=>exact f2
            | own o=>
              obtain ⟨a,r1,r2,r3,r4⟩:=f2
              subst r1
              have z:a≠C:=fun z=>by
                subst z
                exact noC (fun a z=>t.sub a (sub3' a (p4.sub a (p5.sub a (aaT (vs:=vs) (by rw [e3];exact z)))))) ⟨j,o,e,f1⟩
              exact ⟨a,rfl,r2,r3,r4.keep (Ex.refl _) (key a z)⟩
            | bor o=>
              obtain ⟨a,r1,r3,r4⟩:=f2
              subst r1
              have z:a≠C:=fun z=>by
                subst z
                obtain ⟨o1,z1⟩:=bs5 j o (aaj e).1 (aaj e).2
                exact borC j o1 z1 f1
              exact ⟨a,rfl,r3,r4.keep (Ex.refl _) (key a z)⟩
            | see o=>exact absurd e (r.nse j o)
            | mu y D gs=>exact SlOk.muU f2 (Ex.refl _) nsC
            | gh _ _=>exact SlOk.ghU f2 (Ex.refl _) nsC
        · rw [upd_ne (fun z=>by subst z;rw [hC] at e;cases e)];exact k5 a o e s
        · exact t.sub a (sub3' a (p4.sub a (p5.sub a (aaT (vs:=vs) (by rw [e3];exact z)))))
      · exact q5.elim
  · have e:i=ds.length:=by omega
    subst e
    rw [List.drop_length,lcR_nil] at q2
    refine .inl ⟨stops H' same,hq C H' G' sl' us qs ?_ (p0.back hC) nsC hCl gC ?_ ?_ ?_ ?_ q2⟩
    · exact p0.trans (t.unwipe p0.rep)
    · exact al.ok
    · intro p hp
      obtain ⟨m1,m2,m3,m4⟩:=al.own p hp
      refine ⟨m1,m2,m3,fun z=>m4 ?_⟩
      obtain ⟨j,o,z1,z2⟩:=z
      obtain ⟨v,f1,f2⟩:=t.rep.slots j _ z1
      exact ⟨j,o,z1,by rw [f1,<- (wipe_some f1).1,z2]⟩
    · intro p hp
      rcases al.new p hp with n | n
      · exact .inl (p0.back n)
      · exact .inr (p0.sub _ (aaT n))
    · exact al.nd
end
abbrev nT (C:Addr) (ps:List (Addr × List D)):NT:=.node C (ps.map nRow)
abbrev nestD (C:Addr) (ps:List (Addr × List D)):DV:=.gh C (nestG C (nT C ps))
abbrev rowsD (ps:List (Addr × List D)):D:=.lst (ps.map fun p=>D.lst p.2)
theorem afv (C:Addr) (ps:List (Addr × List D)):(nT C ps).as=C::ps.map (·.1):=by rw [NT.as,adr]
theorem nT_d (C:Addr) (ps:List (Addr × List D)):(nT C ps).d=rowsD ps:=by rw [NT.d,ajY]
abbrev soN (so:So) (as:List Addr):So:=(as.map fun a=>(a,Kd.mt 0))++so
section
variable {K:PySem.W.Frag} {W:WX} {G G1 H H1:Hp} {so:So} {σ σ1:L2.St} {sl s1:DSt} {as:List Addr} {i:Nat} {C:Addr} {ps:List (Addr × List D)} {t:NT}
theorem ahU {a:Addr} (s:so.Nt a) (n:a∉as):(soN so as).Nt a:=fun ⟨k,m⟩=>by
  rcases List.mem_append.mp m with m | m
  · obtain ⟨b,hb,e⟩:=List.mem_map.mp m
    cases e;exact n hb
  · exact s ⟨k,m⟩
theorem af0 {a:Addr} (h:(soN so as).Nt a):so.Nt a/\a∉as:=⟨fun ⟨k,m⟩=>h ⟨k,List.mem_append_right _ m⟩,fun m=>h ⟨.mt 0,List.mem_append_left _ (List.mem_map.mpr ⟨a,m,rfl⟩)⟩⟩
theorem aiK {v:V} {dv:DV} (w:VOk K G (soN so as) H v dv):VOk K G so H v dv:=by
  cases dv with
  | d z=>exact w
  | src=>
    obtain ⟨a,⟨c,e⟩,q⟩:=w
    rcases List.mem_append.mp e with e | e
    · obtain ⟨b,hb,e⟩:=List.mem_map.mp e;cases e
    · exact ⟨a,⟨c,e⟩,q⟩
  | own o=>obtain ⟨a,q,g,s,k⟩:=w;exact ⟨a,q,g,(af0 s).1,k⟩
  | bor o=>obtain ⟨a,q,s,k⟩:=w;exact ⟨a,q,(af0 s).1,k⟩
  | see o=>obtain ⟨a,q,s,k⟩:=w;exact ⟨a,q,(af0 s).1,k⟩
  | mu _ _ _=>exact w
  | gh _ _=>exact w
theorem Rep.toNest {us:List V} (r:Rep K G so σ H sl) (nm:noMu sl=true) (nb:noBi sl=true) (hC:H C=some (.lst us)) (gC:G C=none) (sC:so.Nt C) (oC:¬ Own sl σ C) (al:NAll K G H us (ps.map nRow))
    (hp:∀ p∈ps,so.Nt p.1/\G p.1=none/\p.1≠C/\¬ Own sl σ p.1) (nd:(ps.map (·.1)).Nodup):Rep K G (soN so (nT C ps).as) (σ.set i (some (.ref C))) H (sl.set i (some (nestD C ps)))/\(∀ a,Own (sl.set i (some (nestD C ps))) (σ.set i (some (.ref C))) a->Own sl σ a):=by
  have ok:NOk K G H (.ref C) (nT C ps):=.node hC al
  have nn:∀ a∈(nT C ps).as,so.Nt a/\G a=none/\¬ Own sl σ a:=fun a m=>by
    rw [afv] at m
    rcases List.mem_cons.mp m with rfl | m
    · exact ⟨sC,gC,oC⟩
    · obtain ⟨p,h,rfl⟩:=List.mem_map.mp m
      obtain ⟨h1,h2,h3,h4⟩:=hp p h
      exact ⟨h1,h2,h4⟩
  have own:∀ a,Own (sl.set i (some (nestD C ps))) (σ.set i (some (.ref C))) a->Own sl σ a:=fun a ⟨j,o,f1,f2⟩=>by
    rcases get_set f1 with ⟨_,z⟩ | ⟨nj,z⟩
    · cases z
    · exact ⟨j,o,z,by rw [List.getElem?_set_ne (fun z=>nj z.symm)] at f2;exact f2⟩
  refine ⟨⟨⟨r.h.ex,fun a k m=>?_,⟨fun q hq=>List.mem_append_right _ (r.h.ok.tb q hq),fun a k k' m m'=>?_⟩,r.h.tp⟩,by rw [List.length_set,List.length_set];exact r.len,fun j dv f=>?_,fun j k o o' b f1 f2 f3 f4=>?_,fun j o b f1 f2 z=>?_,fun j o f=>?_⟩,own⟩
  · rcases List.mem_append.mp m with m | m
    · obtain ⟨b,hb,e⟩:=List.mem_map.mp m
      cases e
      obtain ⟨vs,q⟩:=ok.lst a hb
      exact ⟨(nn a hb).2.1,.inr ⟨vs,.inl q⟩⟩
    · exact r.h.vol a k m
  · rcases List.mem_append.mp m with m | m<;>rcases List.mem_append.mp m' with m' | m'
    · obtain ⟨b,hb,e⟩:=List.mem_map.mp m
      obtain ⟨b',hb',e'⟩:=List.mem_map.mp m'
      cases e;cases e';rfl
    · obtain ⟨b,hb,e⟩:=List.mem_map.mp m
      cases e;exact absurd ⟨_,m'⟩ (nn a hb).1
    · obtain ⟨b,hb,e⟩:=List.mem_map.mp m'
      cases e;exact absurd ⟨_,m⟩ (nn a hb).1
    · exact r.h.ok.uq a k k' m m'
  · rcases get_set f with ⟨rfl,z⟩ | ⟨nj,z⟩
    · cases z
      have hi:j < σ.length:=by
        have:=(List.getElem?_eq_some_iff.mp f).1
        rw [List.length_set,r.len] at this;exact this
      refine ⟨_,List.getElem?_set_self hi,rfl,fun a m=>⟨List.mem_append_left _ (List.mem_map.mpr ⟨a,m,rfl⟩),?_⟩,ok,?_⟩
      · obtain ⟨vs,q⟩:=ok.lst a m
        rw [q];simp
      · rw [afv]
        refine List.nodup_cons.mpr ⟨fun m=>?_,nd⟩
        obtain ⟨p,h,e⟩:=List.mem_map.mp m
        exact (hp p h).2.2.1 e
    · obtain ⟨w,w1,w2⟩:=r.slots j dv z
      refine ⟨w,by rw [List.getElem?_set_ne (fun z=>nj z.symm)];exact w1,?_⟩
      cases dv with
      | d y=>exact w2
      | src=>obtain ⟨b,⟨c,q1⟩,q2⟩:=w2;exact ⟨b,⟨c,List.mem_append_right _ q1⟩,q2⟩
      | own o=>
        obtain ⟨b,rfl,g,s,k⟩:=w2
        exact ⟨b,rfl,g,ahU s fun m=>(nn b m).2.2 ⟨j,o,z,w1⟩,k⟩
      | bor o=>exact absurd z (agd nb)
      | see o=>exact absurd z (r.nse j o)
      | mu y D gs=>exact absurd z (adk nm)
      | gh y g=>exact absurd z (acK nm)
  · have g:∀ (m:Nat) (o3:OO) (c:Addr),(sl.set i (some (nestD C ps)))[m]?=some (some (.own o3))->(σ.set i (some (.ref C)))[m]?=some (some (.ref c))->sl[m]?=some (some (.own o3))/\σ[m]?=some (some (.ref c)):=fun m o3 c em ec=>by
      rcases get_set em with ⟨_,q⟩ | ⟨nj,q⟩
      · cases q
      · exact ⟨q,by rw [List.getElem?_set_ne (fun z=>nj z.symm)] at ec;exact ec⟩
    exact r.sep j k o o' b (g _ _ _ f1 f3).1 (g _ _ _ f2 f4).1 (g _ _ _ f1 f3).2 (g _ _ _ f2 f4).2
  · rcases get_set f1 with ⟨_,q⟩ | ⟨_,q⟩
    · cases q
    · exact absurd q (agd nb)
  · rcases get_set f with ⟨_,q⟩ | ⟨_,q⟩
    · cases q
    · exact r.nse j o q
theorem Rep.ofNest (r:Rep K G (soN so as) σ H sl) (ok:SoOk K so) (dis:∀ a∈as,so.Nt a) (e:sl[i]?=some (some (.gh C (nestG C t)))) (ea:t.as=as) (nm:noMu (sl.set i none)=true):Rep K (puB G H as) so σ H (sl.set i (some (.d t.d)))/\Ex G (puB G H as)/\(∀ a,Own (sl.set i (some (.d t.d))) σ a->Own sl σ a):=by
  obtain ⟨v0,e1,rfl,mx,nk,nd⟩:=r.slots i _ e
  have nk:NOk K G H (.ref C) t:=nk
  have gn:∀ a∈as,G a=none:=fun a m=>(r.h.vol a _ (List.mem_append_left _ (List.mem_map.mpr ⟨a,m,rfl⟩))).g
  have ex:Ex G (puB G H as):=akX gn
  have own:∀ a,Own (sl.set i (some (.d t.d))) σ a->Own sl σ a:=fun a ⟨j,o,f1,f2⟩=>by
    rcases get_set f1 with ⟨_,z⟩ | ⟨_,z⟩
    · cases z
    · exact ⟨j,o,z,f2⟩
  have nin:∀ a,so.Vol a->a∉as:=fun a v w=>dis a w v
  refine ⟨⟨⟨fun a o q=>?_,fun a k q=>?_,ok,fun a xs q=>ex _ _ (r.h.tp a xs q)⟩,by rw [List.length_set];exact r.len,fun j dv f=>?_,fun j k o o' b f1 f2 f3 f4=>?_,fun j o b f1 f2 z=>?_,fun j o f=>?_⟩,ex,own⟩
  · by_cases m:a∈as
    · rw [afE m] at q;exact q
    · rw [acs m] at q;exact r.h.ex a o q
  · have v:=r.h.vol a k (List.mem_append_right _ q)
    exact v.keep ex (by rw [acs (nin a ⟨k,q⟩)];exact v.g) rfl
  · rcases get_set f with ⟨rfl,z⟩ | ⟨nj,z⟩
    · cases z
      exact ⟨_,e1,nk.pub ex (fun a m=>afE (ea ▸ m))⟩
    · obtain ⟨w,w1,w2⟩:=r.slots j dv z
      refine ⟨w,w1,?_⟩
      have nmu:∀ y D gs,dv≠.mu y D gs:=fun y D gs ed=>by
        subst ed
        refine adk nm (j:=j) (y:=y) (D:=D) (gs:=gs) ?_
        rw [List.getElem?_set_ne (fun z=>nj z.symm)];exact z
      have ngh:∀ y g,dv≠.gh y g:=fun y g ed=>by
        subst ed
        refine acK nm (j:=j) (y:=y) (g:=g) ?_
        rw [List.getElem?_set_ne (fun z=>nj z.symm)];exact z
      have ww:VOk K G (soN so as) H w dv:=SlOk.val w2 nmu ngh
      refine VOk.slot (aiK (ww.keep ex (fun a o q _=>q) fun a o ed q=>?_))
      subst ed
      obtain ⟨b,q2,g,s,_⟩:=ww
      rw [q] at q2;cases q2
      rw [acs (af0 s).2];exact g
  · have g:∀ (m:Nat) (o3:OO),(sl.set i (some (.d t.d)))[m]?=some (some (.own o3))->sl[m]?=some (some (.own o3)):=fun m o3 em=>by
      rcases get_set em with ⟨_,q⟩ | ⟨_,q⟩
      · cases q
      · exact q
    exact r.sep j k o o' b (g _ _ f1) (g _ _ f2) f3 f4
  · rcases get_set f1 with ⟨rfl,q⟩ | ⟨_,q⟩
    · cases q
    · exact r.bor j o b q f2 (own _ z)
  · rcases get_set f with ⟨_,q⟩ | ⟨_,q⟩
    · cases q
    · exact r.nse j o q
theorem Rep.unNest (r:Rep K G (soN so as) σ H sl) (ok:SoOk K so):Rep K G so σ H (noMus sl):=by
  have own:∀ a,Own (noMus sl) σ a->Own sl σ a:=fun a ⟨j,o,f1,f2⟩=>⟨j,o,(acu f1).1,f2⟩
  refine ⟨⟨r.h.ex,fun a k m=>r.h.vol a k (List.mem_append_right _ m),ok,r.h.tp⟩,by unfold noMus;rw [List.length_map];exact r.len,fun j dv f=>?_,fun j k o o' b f1 f2 f3 f4=>r.sep j k o o' b (acu f1).1 (acu f2).1 f3 f4,fun j o b f1 f2 z=>r.bor j o b (acu f1).1 f2 (own _ z),fun j o f=>r.nse j o (acu f).1⟩
  obtain ⟨f0,f1,f2⟩:=acu f
  obtain ⟨w,w1,w2⟩:=r.slots j dv f0
  exact ⟨w,w1,VOk.slot (aiK (SlOk.val w2 f1 f2))⟩
end
def dNest (ti:TDI) (g:TDG) (tt:TDT) (te:TD) (vs:List Nat) (i:Nat) (u t:TDS):TDS:=fun E sl=>ti sl (fun ds s1=>dLcR g tt te vs (fun acc s2=>noMu s2=true/\noBi s2=true/\∀ C ps,ps.map (·.2)=acc->
  u { nx:=fun s=>∃ ps',s[i]?=some (some (nestD C ps'))/\ps'.map (·.1)=ps.map (·.1)/\noMu (s.set i none)=true/\t E (s.set i (some (.d (rowsD ps')))),bk:=fun _=>False,ct:=fun _=>False,rt:=fun _ _=>False,xc:=fun cls efs _=>∀ s',E.xc cls efs s' } (s2.set i (some (nestD C ps)))) ds [] (wipeD s1 vs)) E.xc
section
variable {X:Cx} {W:WX} {elt tg iter:Expr} {ifs:List Expr} {scope:Scope} {own:List (Str × Nat)} {pos spos:Pos} {ti:TDI} {g:TDG} {tt:TDT} {te:TD} {ix:List Nat} {rest:List Stmt} {u t:TDS} {n:Nat}
theorem ajo {g':TG} {i:Nat} {y:Str} {st:Stmt} (hy:X.N[i]?=some y) (b:PS X st (tAsg (tLc (upI X.K W ti) g' (upT X.K W0 tt) (up X.K W0 te) (own.map (·.2))) (gName i)))
    (hg:Shared->GSem X.K X.N.length ix g' g) (h1:DSs X W (rest.take n) u) (h2:DSs X W (rest.drop n) t) (hix:∀ j,j∈ix->j∈own.map (·.2)) :
    DSs X W (st::rest) (dNest ti g tt te (own.map (·.2)) i u t):=by
  have h:=pss_cons b (alD h1 h2)
  rw [List.take_append_drop] at h
  refine ⟨fun pins s σ H D I ⟨G,so,sl,E,rep,q,okE⟩=>h.run pins s σ H D I ?_⟩
  show tLc (upI X.K W ti) g' (upT X.K W0 tt) (up X.K W0 te) (own.map (·.2)) σ H (fun x H1=>upS X.K W u { D with nx:=upS X.K W t D } (σ.set i (some x)) H1)
  refine amB (K:=X.K) _ I.len (hg s) hix rep q okE.xc.ex fun C H1 G1 s2 us ps p hC sC hl gC al hp hn nd ⟨nm,nb,z⟩=>?_
  have oC:¬ Own s2 σ C:=fun w=>(rep.nown (p.sub _ w)).1 hC
  obtain ⟨r2,own2⟩:=p.rep.toNest (i:=i) nm nb hl gC sC oC al hp nd
  have z:=z C ps rfl
  have nn:∀ a∈(nT C ps).as,so.Nt a/\(H a=none\/Own sl σ a):=fun a m=>by
    rw [afv] at m
    rcases List.mem_cons.mp m with rfl | m
    · exact ⟨sC,.inl hC⟩
    · obtain ⟨x,hx,rfl⟩:=List.mem_map.mp m
      exact ⟨(hp x hx).1,hn x hx⟩
  have nin:∀ a,H a≠none->¬ Own sl σ a->a∉(nT C ps).as:=fun a k w m=>(nn a m).2.elim k w
  have kp:∀ {σ3 H3 G3 s3},PostS X.K G1 (soN so (nT C ps).as) (σ.set i (some (.ref C))) H1 (s2.set i (some (nestD C ps))) σ3 H3 G3 s3->∀ a o,H a=some o->so.Nt a->¬ Own sl σ a->H3 a=some o:=fun p3 a o ea s w=>
    p3.keep a o (p.keep a o ea s) (ahU s (nin a (by rw [ea];simp) w)) fun y=>w (p.sub a (own2 a y))
  have fr:∀ {σ3 H3 G3 s3},PostS X.K G1 (soN so (nT C ps).as) (σ.set i (some (.ref C))) H1 (s2.set i (some (nestD C ps))) σ3 H3 G3 s3->∀ a,H a≠none->G a=none->so.Nt a->¬ Own sl σ a->G3 a=none:=fun p3 a k ga s w=>
    p3.frm a (by rw [aaU p.keep k s];exact k) (p.frm a k ga s w) (ahU s (nin a k w)) fun y=>w (p.sub a (own2 a y))
  have sb:∀ {σ3 H3 G3 s3},PostS X.K G1 (soN so (nT C ps).as) (σ.set i (some (.ref C))) H1 (s2.set i (some (nestD C ps))) σ3 H3 G3 s3->∀ a,H a≠none->so.Nt a->¬ Own sl σ a->¬ Own s3 σ3 a:=fun p3 a k s w=>
    p3.sub a (by rw [aaU p.keep k s];exact k) (ahU s (nin a k w)) fun y=>w (p.sub a (own2 a y))
  refine ⟨G1,_,_,_,r2,z,fun σ3 H3 G3 s3 p3 ⟨ps',e3,ea,nm3,z3⟩=>?_,fun _ _ _ _ _ z=>z.elim,fun _ _ _ _ _ z=>z.elim,fun _ _ _ _ _ _ z=>z.elim,fun cls d σ3 H3 G3 efs s3 p3 xd z3=>?_⟩
  · have eas:(nT C ps').as=(nT C ps).as:=by rw [afv,afv,ea]
    obtain ⟨r3,ex3,own3⟩:=p3.rep.ofNest rep.h.ok (fun a m=>(nn a m).1) e3 eas nm3
    rw [nT_d] at r3 own3
    refine ⟨_,so,_,E,r3,z3,okE.step ⟨p.ex.trans (p3.ex.trans ex3),r3,kp p3,fun a k ga s w=>?_,fun a k s w y=>sb p3 a k s w (own3 a y),by rw [p3.ln,List.length_set]⟩⟩
    rw [acs (nin a k w)]
    exact fr p3 a k ga s w
  · exact okE.xc cls d σ3 H3 G3 efs (noMus s3) ⟨p.ex.trans p3.ex,p3.rep.unNest rep.h.ok,kp p3,fr p3,fun a k s w y=>sb p3 a k s w (let ⟨j,o,f1,f2⟩:=y;⟨j,o,(acu f1).1,f2⟩),by rw [p3.ln,List.length_set]⟩ xd (z3 _)
theorem ajO {g':TG} {i:Nat} {y:Str} {py:Pos} (hN:X.N.Nodup) (hy:X.N[i]?=some y) (hx:Loc X.env.scope y) (hc:X.calm=true)
    (hi:DI X W tg iter ti) (ok:BlkOk X.N X.env.scope scope own)
    (hg:∀ s H C cl fp,DG (X.blk s H scope (compEnvC scope cl C X.env) fp) ix tg g' g) (ht:∀ s H C cl fp,DTs (X.blk s H scope (compEnvC scope cl C X.env) fp) W0 ifs tt)
    (he:∀ s H C cl fp,DE (X.blk s H scope (compEnvC scope cl C X.env) fp) W0 elt te) (h1:DSs X W (rest.take n) u) (h2:DSs X W (rest.drop n) t) (hix:∀ j,j∈ix->j∈own.map (·.2):=by decide) (hs:∀ x,foldedSetIterable iter X.env x=pure x:=by intro _;rfl)
    (hsw:swapsWith (.ListComp elt [⟨tg,iter,ifs,0⟩] scope pos) (some (.Name y py)) spos.line X.env=pure false:=by rfl) (hf:X.fn y=true\/X.env.scope.names.lookup y=some .local:=by first | exact .inl rfl | exact .inr rfl | assumption) :
    DSs X W (.Assign [.Name y py] (.ListComp elt [⟨tg,iter,ifs,0⟩] scope pos) spos::rest) (dNest ti g tt te (own.map (·.2)) i u t):=
  ajo hy (ps_set hN hy hx (pe_lc (tt:=upT X.K W0 tt) (te:=up X.K W0 te) (pos:=pos) hc hN hi ok (fun s H C cl fp=>(hg s H C cl fp).pg) ht he hs) hsw hf) (fun s=>(hg s (fun _=>none) 0 [] []).sem) h1 h2 hix
end
section
variable {K:PySem.W.Frag} {W:WX} {G G1 H H1:Hp} {so:So} {σ σ1:L2.St} {sl s1:DSt} {i:Nat} {C:Addr} {y:V} {d:D}
theorem NAll.unleaf:∀ {vs:List V} {ds:List D},NAll K G H vs (ds.map .leaf)->DAll K G vs ds
  | _,[],h=>by cases h;exact .nil
  | _,e::r,h=>by
    cases h with
    | cons h t=>
      cases h with
      | leaf h=>exact .cons h (NAll.unleaf t)
theorem NAll.row:∀ {us:List V} {ps:List (Addr × List D)} {j:Nat} {p:Addr × List D},NAll K G H us (ps.map nRow)->ps[j]?=some p->us[j]?=some (.ref p.1)/\∃ vs,H p.1=some (.lst vs)/\DAll K G vs p.2
  | _,[],_,_,_,e=>by simp at e
  | _,q::r,0,p,h,e=>by
    simp at e;subst e
    cases h with
    | cons h t=>
      cases h with
      | node h l=>exact ⟨rfl,_,h,NAll.unleaf l⟩
  | _,q::r,j + 1,p,h,e=>by
    cases h with
    | cons h t=>
      obtain ⟨e1,e2⟩:=NAll.row t (show r[j]?=some p by simpa using e)
      exact ⟨by simpa using e1,e2⟩
theorem NAll.setRow:∀ {us:List V} {ps:List (Addr × List D)} {j k:Nat} {p:Addr × List D} {vs:List V},NAll K G H us (ps.map nRow)->(ps.map (·.1)).Nodup->ps[j]?=some p->H p.1=some (.lst vs)->DOk K G y d->NAll K G (upd H p.1 (.lst (vs.set k y))) us ((ps.set j (p.1,p.2.set k d)).map nRow)
  | _,[],_,_,_,_,_,_,e,_,_=>by simp at e
  | _,q::r,0,k,p,vs,h,nd,e,hp,w=>by
    simp at e;subst e
    cases h with
    | cons h t=>
      cases h with
      | node h l=>
        rw [hp] at h;cases h
        refine .cons (.node upd_same (NAll.leaves (DAll.set w k (NAll.unleaf l)))) (NAll.keep (Ex.refl G) (fun b m=>upd_ne fun z=>?_) t)
        rw [adr] at m
        rw [List.map_cons,List.nodup_cons] at nd
        exact nd.1 (z ▸ m)
  | _,q::r,j + 1,k,p,vs,h,nd,e,hp,w=>by
    have e':r[j]?=some p:=by simpa using e
    have ne:q.1≠p.1:=fun z=>by
      rw [List.map_cons,List.nodup_cons] at nd
      exact nd.1 (z ▸ List.mem_map_of_mem (List.mem_of_getElem? e'))
    cases h with
    | cons h t=>
      refine .cons ?_ (NAll.setRow t (List.nodup_cons.mp nd).2 e' hp w)
      refine NOk.keep (Ex.refl G) (fun b m=>upd_ne fun z=>?_) h
      rw [NT.as,ad4] at m
      exact ne ((List.mem_singleton.mp m).symm.trans z)
theorem aiS:∀ {ps:List (Addr × List D)} {j:Nat} {p:Addr × List D} {es:List D},ps[j]?=some p->(ps.set j (p.1,es)).map (·.1)=ps.map (·.1)
  | [],_,_,_,e=>by simp at e
  | q::r,0,p,es,e=>by simp at e;subst e;rfl
  | q::r,j + 1,p,es,e=>by
    have z:=aiS (ps:=r) (j:=j) (p:=p) (es:=es) (by simpa using e)
    show q.1::((r.set j (p.1,es)).map (·.1))=q.1::r.map (·.1)
    rw [z]
theorem slotNest {ps:List (Addr × List D)} (r:Rep K G so σ H sl) (e:sl[i]?=some (some (nestD C ps))):σ[i]?=some (some (.ref C))/\(∃ us,H C=some (.lst us)/\NAll K G H us (ps.map nRow))/\(∀ a∈(nT C ps).as,(a,Kd.mt 0)∈so/\H a≠none)/\C∉ps.map (·.1)/\(ps.map (·.1)).Nodup:=by
  obtain ⟨v,e1,rfl,mx,nk,nd⟩:=r.slots i _ e
  have nd:(nT C ps).as.Nodup:=nd
  rw [afv,List.nodup_cons] at nd
  have nk:NOk K G H (.ref C) (nT C ps):=nk
  cases nk with
  | node h l=>exact ⟨e1,⟨_,h,l⟩,mx,nd.1,nd.2⟩
theorem PostS.nest {ps:List (Addr × List D)} {p:Addr × List D} {vs:List V} {j k:Nat} (r:Rep K G so σ H sl) (e:sl[i]?=some (some (nestD C ps))) (nm:noMu (sl.set i none)=true) (ep:ps[j]?=some p) (hp:H p.1=some (.lst vs)) (w:DOk K G y d) :
    PostS K G so σ H sl σ (upd H p.1 (.lst (vs.set k y))) G (sl.set i (some (nestD C (ps.set j (p.1,p.2.set k d))))):=by
  obtain ⟨e1,⟨us,hC,al⟩,mx,cn,nd⟩:=slotNest r e
  have pm:p.1∈(nT C ps).as:=by rw [afv];exact List.mem_cons_of_mem _ (List.mem_map_of_mem (List.mem_of_getElem? ep))
  have ps0:(p.1,Kd.mt 0)∈so:=(mx _ pm).1
  have gp:G p.1=none:=(r.h.vol _ _ ps0).g
  have nC:C≠p.1:=fun z=>cn (z ▸ List.mem_map_of_mem (List.mem_of_getElem? ep))
  have nt:∀ a,so.Nt a->a≠p.1:=fun a s z=>s ⟨_,z ▸ ps0⟩
  have li:i < sl.length:=(List.getElem?_eq_some_iff.mp e).1
  have own:∀ a,Own (sl.set i (some (nestD C (ps.set j (p.1,p.2.set k d))))) σ a->Own sl σ a:=fun a ⟨m,o,f1,f2⟩=>by
    rcases get_set f1 with ⟨_,z⟩ | ⟨_,z⟩
    · cases z
    · exact ⟨m,o,z,f2⟩
  have eas:(nT C (ps.set j (p.1,p.2.set k d))).as=(nT C ps).as:=by rw [afv,afv,aiS ep]
  refine ⟨Ex.refl G,⟨⟨fun a o q=>?_,fun a kd q=>?_,r.h.ok,ad7 r.h.tp (by intro _ z;cases z)⟩,by rw [List.length_set];exact r.len,fun m dv f=>?_,fun m n o o' b f1 f2 f3 f4=>?_,fun m o b f1 f2 z=>?_,fun m o f=>?_⟩,fun a o q s _=>by rw [upd_ne (nt a s)];exact q,fun a _ g _ _=>g,fun a _ _ z y=>z (own a y),rfl⟩
  · rw [upd_ne (ne_of_none q gp)];exact r.h.ex a o q
  · by_cases z:a=p.1
    · subst z
      cases r.h.ok.uq _ _ _ q ps0
      exact ⟨gp,.inr ⟨_,.inl upd_same⟩⟩
    · exact (r.h.vol a kd q).keep (Ex.refl G) (r.h.vol a kd q).g (upd_ne z)
  · rcases get_set f with ⟨rfl,z⟩ | ⟨nj,z⟩
    · cases z
      refine ⟨_,e1,rfl,fun a m=>?_,?_,?_⟩
      · have m:a∈(nT C ps).as:=eas ▸ m
        refine ⟨(mx a m).1,?_⟩
        by_cases z:a=p.1
        · subst z;rw [upd_same];simp
        · rw [upd_ne z];exact (mx a m).2
      · exact .node (by rw [upd_ne nC];exact hC) (NAll.setRow al nd ep hp w)
      · show (nT C (ps.set j (p.1,p.2.set k d))).as.Nodup
        rw [eas,afv];exact List.nodup_cons.mpr ⟨cn,nd⟩
    · obtain ⟨u,w1,w2⟩:=r.slots m dv z
      refine ⟨u,w1,?_⟩
      have q:∀ x,(sl.set i none)[m]?=some (some x) ↔ sl[m]?=some (some x):=fun x=>by rw [List.getElem?_set_ne (fun z=>nj z.symm)]
      cases dv with
      | d z=>exact w2
      | src=>exact w2
      | own o=>obtain ⟨b,q1,q2,q3,q4⟩:=w2;exact ⟨b,q1,q2,q3,q4.keep (Ex.refl G) (upd_ne (nt b q3))⟩
      | bor o=>obtain ⟨b,q1,q3,q4⟩:=w2;exact ⟨b,q1,q3,q4.keep (Ex.refl G) (upd_ne (nt b q3))⟩
      | see o=>exact absurd z (r.nse m o)
      | mu x D gs=>exact absurd ((q _).mpr z) (adk nm)
      | gh x g=>exact absurd ((q _).mpr z) (acK nm)
  · have g:∀ (m:Nat) (o3:OO),(sl.set i (some (nestD C (ps.set j (p.1,p.2.set k d)))))[m]?=some (some (.own o3))->sl[m]?=some (some (.own o3)):=fun m o3 em=>by
      rcases get_set em with ⟨_,q⟩ | ⟨_,q⟩
      · cases q
      · exact q
    exact r.sep m n o o' b (g _ _ f1) (g _ _ f2) f3 f4
  · rcases get_set f1 with ⟨_,q⟩ | ⟨_,q⟩
    · cases q
    · exact r.bor m o b q f2 (own _ z)
  · rcases get_set f with ⟨_,q⟩ | ⟨_,q⟩
    · cases q
    · exact r.nse m o q
end
def dPutN (tj tk te:TD) (i:Nat):TDS:=fun E sl=>te sl (fun y s1=>∃ d,pubV y=.d d/\∃ C ps,s1[i]?=some (some (nestD C ps))/\
  tj s1 (fun x1 s2=>∃ k1 j1 p,pubV x1=.d (.int k1)/\s2[i]?=some (some (nestD C ps))/\ixN ps.length k1=some j1/\ps[j1]?=some p/\
    tk s2 (fun x2 s3=>∃ k2 j2,pubV x2=.d (.int k2)/\s3[i]?=some (some (nestD C ps))/\noMu (s3.set i none)=true/\ixN p.2.length k2=some j2/\E.nx (s3.set i (some (nestD C (ps.set j1 (p.1,p.2.set j2 d)))))) E.xc) E.xc) E.xc
section
variable {X:Cx} {W:WX} {o key1 key value:Expr} {tj tk te:TD} {pos pos' pos'':Pos} {i:Nat}
theorem ajP (ho:PE X o (tVar i)) (hj:DE X W key1 tj) (hk:DE X W key tk) (hv:DE X W value te) (hp:PlainIx key1) (hs:swapsWithSole [.Subscript (.Subscript o key1 pos'') key pos'] value pos.line X.env=pure false:=by rfl) (hw:swappedStores [.Subscript (.Subscript o key1 pos'') key pos'] value X.env=pure none:=by rfl)
    (h1:(assignEach [.Subscript (.Subscript o key1 pos'') key pos'] X.env).map (·.2)=[assign (.Subscript (.Subscript o key1 pos'') key pos') X.env]:=by rfl)
    (ha:∀ v,assign (.Subscript (.Subscript o key1 pos'') key pos') X.env v=(do
      let ov <- holding [v] (eval (.Subscript o key1 pos'') X.env)
      let iv <- holding [v,ov] (eval key X.env)
      standAt pos'
      holding [v,ov,iv] (setItem ov iv v)
      release [v,ov,iv] []):=by intro _;rfl) :
    DS X W (.Assign [.Subscript (.Subscript o key1 pos'') key pos'] value pos) (dPutN tj tk te i):=by
  refine ac8 (ps_asg hv (pg_sub (pe_ix ix_list ho hj hp) hk set_list ha) hs hw h1) fun D σ H ⟨G,so,sl,E,rep,q,ok⟩=>?_
  refine ⟨G,so,sl,_,E.xc,rep,q,fun y H1 G1 dy s1 p1 z=>?_,ok.xc.ex⟩
  obtain ⟨G2,p2⟩:=p1.pub
  obtain ⟨d,e2,C,ps,e0,z⟩:=z
  rw [e2] at p2
  obtain ⟨f0,_,_,_,_⟩:=slotNest p2.rep e0
  refine ⟨.ref C,f0,?_⟩
  refine ⟨G2,so,s1,_,E.xc,p2.rep,z,fun x1 H3 G3 dx1 s2 p3 z3=>?_,(ok.step p2.toPost.s).xc.ex⟩
  obtain ⟨G4,p4⟩:=p3.pub
  obtain ⟨k1,j1,p,e3,e4,i1,ep,z3⟩:=z3
  rw [e3] at p4
  have w1:DOk X.K G4 x1 (.int k1):=p4.val
  obtain rfl:x1=.int k1:=by cases w1;rfl
  obtain ⟨_,⟨us,hC,al⟩,_,_,_⟩:=slotNest p4.rep e4
  obtain ⟨eu,_⟩:=al.row ep
  refine ⟨C,us,k1,.ref p.1,rfl,rfl,SqL.of hC,by unfold atI;rw [al.len,i1];exact eu,?_⟩
  have p24:=p2.toPost.trans p4.toPost
  refine ⟨G4,so,s2,_,E.xc,p4.rep,z3,fun x2 H5 G5 dx2 s3 p5 z5=>?_,(ok.step p24.s).xc.ex⟩
  obtain ⟨G6,p6⟩:=p5.pub
  obtain ⟨k2,j2,e5,e6,nm,i2,z5⟩:=z5
  rw [e5] at p6
  have w2:DOk X.K G6 x2 (.int k2):=p6.val
  obtain rfl:x2=.int k2:=by cases w2;rfl
  obtain ⟨_,⟨us',hC',al'⟩,_,_,_⟩:=slotNest p6.rep e6
  obtain ⟨_,vs,hvs,dvs⟩:=al'.row ep
  have wy:DOk X.K G6 y d:=p2.over (p4.toPost.trans p6.toPost)
  refine ⟨p.1,vs,k2,j2,rfl,rfl,hvs,by rw [dvs.length];exact i2,?_⟩
  exact ok.nx σ _ G6 _ ((p24.trans p6.toPost).s.trans (PostS.nest p6.rep e6 nm ep hvs wy)) z5
end
def dLendN (i:Nat) (te:TD):TD:=fun sl Q E=>∃ C ps,sl[i]?=some (some (nestD C ps))/\noMu (sl.set i none)=true/\
  te (sl.set i (some (.d (rowsD ps)))) (fun dv s1=>s1=sl.set i (some (.d (rowsD ps)))/\∃ y:D,dv=.d y/\y.flat=true/\Q dv sl) (fun cls fs s1=>s1=sl.set i (some (.d (rowsD ps)))/\D.flatF fs=true/\E cls fs sl)
def dLendNT (i:Nat) (te:TDT):TDT:=fun sl Q E=>∃ C ps,sl[i]?=some (some (nestD C ps))/\noMu (sl.set i none)=true/\
  te (sl.set i (some (.d (rowsD ps)))) (fun b s1=>s1=sl.set i (some (.d (rowsD ps)))/\Q b sl) (fun cls fs s1=>s1=sl.set i (some (.d (rowsD ps)))/\D.flatF fs=true/\E cls fs sl)
section
variable {X:Cx} {W:WX} {e:Expr} {te:TD} {tt:TDT}
theorem agu (h:DE X W e te) (i:Nat):DE X W e (dLendN i te):=aa6 (akH h i) fun σ H R ⟨G,so,sl,Q,E,rep,⟨C,ps,g,nm,q⟩,hq,hx⟩=>
  ⟨G,so,sl,Q,E,rep,⟨C,nT C ps,g,nm,by rw [nT_d];exact q⟩,hq,hx⟩
theorem akD (h:DT X W e tt) (i:Nat):DT X W e (dLendNT i tt):=afF (akE h i) fun σ H R ⟨G,so,sl,Q,E,rep,⟨C,ps,g,nm,q⟩,hq,hx⟩=>
  ⟨G,so,sl,Q,E,rep,⟨C,nT C ps,g,nm,by rw [nT_d];exact q⟩,hq,hx⟩
end
theorem adO (lo:Int) (n:Nat):intsFrom lo (n + 1)=.int lo::intsFrom (lo + 1) n:=rfl
theorem adl {g:TDG} {tb:TDS} {E:EndsD} {sl:DSt} (I:Nat->DSt->Prop) (n:Nat) (h0:I 0 sl)
    (step:∀ (N:DSt->Prop) (k:Nat) (s:DSt),k < n->(∀ s',I (k + 1) s'->N s')->I k s->g (.int (k:Int)) s fun s1=>tb { nx:=N,ct:=N,bk:=E.nx,rt:=E.rt,xc:=E.xc } s1) (fin:∀ s,I n s->E.nx s):dForL g tb E (intsFrom 0 n) sl:=by
  have st:∀ (N:DSt->Prop) (d:D) (r:List D) (s:DSt),(∀ s',(∃ k m:Nat,k + m=n/\r=intsFrom (k:Int) m/\I k s')->N s')->(∃ k m:Nat,k + m=n/\d::r=intsFrom (k:Int) m/\I k s)->g d s fun s1=>tb { nx:=N,ct:=N,bk:=E.nx,rt:=E.rt,xc:=E.xc } s1:=by
    rintro N d r s hN ⟨k,m,e1,e2,i⟩
    cases m with
    | zero=>cases e2
    | succ m=>
      rw [adO] at e2
      cases e2
      exact step N k s (by omega) (fun s' i'=>hN s' ⟨k + 1,m,by omega,by congr 1,i'⟩) i
  refine adQ (fun r s=>∃ k m:Nat,k + m=n/\r=intsFrom (k:Int) m/\I k s) st (fun s ⟨k,m,e1,e2,i⟩=>?_) _ _ ⟨0,n,by omega,rfl,h0⟩
  cases m with
  | zero=>
    have z:k=n:=by omega
    subst z;exact fin s i
  | succ m=>cases e2
def bad1 (e:Nat->Nat->D) (i j:Nat):Prop:=match ratOf (e i j) with
  | none=>True
  | some q=>q < 0\/(i=j/\q≠0)
def bad2 (n:Nat) (f:Nat->Nat->Rat) (i j:Nat):Prop:=∃ k,k < n/\f i k + f k j < f i j
def ahead (n i j i' j':Nat):Prop:=i' < n/\j' < n/\(i' < i\/(i'=i/\j' < j))
def FirstW (n:Nat) (e:Nat->Nat->D) (Q:D->Prop):Prop:=
  (∀ i j,i < n->j < n->bad1 e i j->(∀ i' j',ahead n i j i' j'->¬ bad1 e i' j')->Q (.tup [.int (i:Int),.int (j:Int)]))/\
  ((∀ i j,i < n->j < n->¬ bad1 e i j)->∀ f:Nat->Nat->Rat,(∀ i j,i < n->j < n->ratOf (e i j)=some (f i j))->
    (∀ i j,i < n->j < n->bad2 n f i j->(∀ i' j',ahead n i j i' j'->¬ bad2 n f i' j')->Q (.tup [.int (i:Int),.int (j:Int)]))/\((∀ i j,i < n->j < n->¬ bad2 n f i j)->Q .non))
theorem FirstW.mono {n:Nat} {e:Nat->Nat->D} {Q Q':D->Prop} (h:FirstW n e Q) (m:∀ d,Q d->Q' d):FirstW n e Q':=
  ⟨fun i j a b c d=>m _ (h.1 i j a b c d),fun a f b=>⟨fun i j c d x y=>m _ ((h.2 a f b).1 i j c d x y),fun c=>m _ ((h.2 a f b).2 c)⟩⟩
structure EnOk (n:Nat) (e:Nat->Nat->D):Prop where
  l1:1<=n
  l9:n<=9
  pl:∀ i j,i < n->j < n->Pl (e i j)
  nb:∀ i j q,i < n->j < n->ratOf (e i j)=some q->Nb 1900 q
theorem ahead_step {n i j i' j':Nat} (h:ahead n i (j + 1) i' j'):ahead n i j i' j'\/(i'=i/\j'=j):=by
  obtain ⟨a,b,c⟩:=h
  unfold ahead
  omega
theorem afc {n i i' j':Nat} (h:ahead n (i + 1) 0 i' j'):ahead n i n i' j':=by
  obtain ⟨a,b,c⟩:=h
  unfold ahead
  omega
theorem ad5 {n i' j':Nat}:¬ ahead n 0 0 i' j':=fun ⟨_,_,c⟩=>by omega
theorem afd {n i' j':Nat} (a:i' < n) (b:j' < n):ahead n n 0 i' j':=⟨a,b,.inl a⟩
theorem ae2 {x:D} {ds:List D} {Q:DV->Prop} (h:itemsD x=some ds) (q:Q (.d (.int ds.length))):lenR [.d x] Q:=by
  cases x with
  | lst es=>cases h;exact aed (ds:=ds) rfl q
  | tup es=>cases h;exact ajC q
  | _=>cases h
theorem ahB {x:D} {ds:List D} {P:List D->Prop} (h:itemsD x=some ds) (q:P ds):iterR (.d x) P:=by
  cases x with
  | lst es=>cases h;exact acF q
  | tup es=>cases h;exact al1 q
  | _=>cases h
def rowSq (n:Nat) (r:D):Bool:=match itemsD r with
  | some es=>es.length == n
  | none=>false
def isSqD (x:D):Bool:=match itemsD x with
  | some ds=>decide (1<=ds.length) && decide (ds.length<=9) && ds.all (rowSq ds.length)
  | none=>false
structure TabL (n:Nat) (e:Nat->Nat->D) (x:D):Prop where
  rows:∃ rs:Nat->D,itemsD x=some ((List.range n).map rs)/\∀ i,i < n->itemsD (rs i)=some ((List.range n).map (e i))
theorem am3 {x:D} {ds:List D} {i:Nat} {d:D} {Q:DV->Prop} (h:itemsD x=some ds) (e:ds[i]?=some d) (q:Q (.d d)):ixR (.d x) (.d (.int (i:Int))) Q:=by
  cases x with
  | lst es=>cases h;exact agl (ds:=ds) rfl (atI_nat e) q
  | tup es=>cases h;exact aaY (atI_nat e) q
  | _=>cases h
theorem TabL.len {n:Nat} {e:Nat->Nat->D} {x:D} {Q:DV->Prop} (h:TabL n e x) (q:Q (.d (.int (n:Int)))):lenR [.d x] Q:=by
  obtain ⟨rs,h1,_⟩:=h.rows
  exact ae2 h1 (by rw [List.length_map,List.length_range];exact q)
theorem TabL.cell {n i j:Nat} {e:Nat->Nat->D} {x:D} {Q:DV->Prop} (h:TabL n e x) (hi:i < n) (hj:j < n) (q:Q (.d (e i j))):ixR (.d x) (.d (.int (i:Int))) fun v=>ixR v (.d (.int (j:Int))) Q:=by
  obtain ⟨rs,h1,h2⟩:=h.rows
  refine am3 h1 (d:=rs i) (by rw [List.getElem?_map,List.getElem?_range hi];rfl) ?_
  exact am3 (h2 i hi) (d:=e i j) (by rw [List.getElem?_map,List.getElem?_range hj];rfl) q
theorem ad9 (n:Nat) (e:Nat->Nat->D):TabL n e (tabX n e):=⟨fun i=>rowX n (e i),rfl,fun _ _=>rfl⟩
theorem ahY (ds:List D):(List.range ds.length).map (fun i=>ds.getD i .non)=ds:=by
  apply List.ext_getElem
  · simp
  · intro i h1 h2
    simp [List.getD_eq_getElem?_getD,h2]
theorem alm {x:D} (h:isSqD x=true):∃ n e,1<=n/\n<=9/\TabL n e x/\∃ ds,itemsD x=some ds/\ds.length=n:=by
  unfold isSqD at h
  cases z:itemsD x with
  | none=>rw [z] at h;cases h
  | some ds=>
    rw [z] at h
    simp only [Bool.and_eq_true,decide_eq_true_eq,List.all_eq_true] at h
    obtain ⟨⟨h1,h9⟩,hr⟩:=h
    refine ⟨ds.length,fun i j=>((itemsD (ds.getD i .non)).getD []).getD j .non,h1,h9,⟨fun i=>ds.getD i .non,by rw [ahY];exact z,fun i hi=>?_⟩,ds,rfl,rfl⟩
    have m:ds.getD i .non∈ds:=by
      rw [List.getD_eq_getElem?_getD,List.getElem?_eq_getElem hi]
      exact List.getElem_mem hi
    have q:=hr _ m
    unfold rowSq at q
    cases y:itemsD (ds.getD i .non) with
    | none=>rw [y] at q;cases q
    | some es=>
      rw [y] at q
      have l:es.length=ds.length:=by simpa using q
      show some es=some ((List.range ds.length).map fun j=>es.getD j .non)
      rw [<- l,ahY]
def tRows (n:Nat) (e:Nat->Nat->D):List (List D):=(List.range n).map fun i=>(List.range n).map (e i)
def setE (e:Nat->Nat->D) (x y:Nat) (d:D):Nat->Nat->D:=fun i j=>if i=x/\j=y then d else e i j
theorem af5 {ps:List (Addr × List D)} {n:Nat} {e:Nat->Nat->D} (h:ps.map (·.2)=tRows n e):rowsD ps=tabX n e:=by
  have z:(ps.map fun p=>D.lst p.2)=(ps.map (·.2)).map D.lst:=by rw [List.map_map];rfl
  show D.lst _=D.lst _
  rw [z,h]
  unfold tRows
  rw [List.map_map]
  rfl
theorem aeJ {n x:Nat} {e:Nat->Nat->D} (h:x < n):(tRows n e)[x]?=some ((List.range n).map (e x)):=by
  unfold tRows
  rw [List.getElem?_map,List.getElem?_range h];rfl
theorem ai5 {ps:List (Addr × List D)} {n x:Nat} {e:Nat->Nat->D} (h:ps.map (·.2)=tRows n e) (hx:x < n):∃ p,ps[x]?=some p/\p.2=(List.range n).map (e x):=by
  have g:=aeJ (e:=e) hx
  rw [<- h,List.getElem?_map] at g
  cases z:ps[x]? with
  | none=>rw [z] at g;cases g
  | some p=>rw [z] at g;exact ⟨p,rfl,Option.some.inj g⟩
theorem akk {ps:List (Addr × List D)} {n:Nat} {e:Nat->Nat->D} (h:ps.map (·.2)=tRows n e):ps.length=n:=by
  have:=congrArg List.length h
  unfold tRows at this
  simpa using this
theorem akj {ps:List (Addr × List D)} {n x y:Nat} {e:Nat->Nat->D} {p:Addr × List D} {d:D} (h:ps.map (·.2)=tRows n e) (hx:x < n) (hp:ps[x]?=some p):(ps.set x (p.1,p.2.set y d)).map (·.2)=tRows n (setE e x y d):=by
  obtain ⟨p',e1,e2⟩:=ai5 h hx
  rw [hp] at e1;cases e1
  rw [List.map_set,h,e2]
  apply List.ext_getElem?
  intro i
  by_cases hi:i < n
  · rw [aeJ hi]
    by_cases q:x=i
    · subst q
      rw [List.getElem?_set_self (by unfold tRows;simpa using hx)]
      congr 1
      apply List.ext_getElem?
      intro j
      by_cases hj:j < n
      · rw [List.getElem?_map,List.getElem?_range hj]
        by_cases r:y=j
        · subst r
          rw [List.getElem?_set_self (by simpa using hj)]
          simp [setE]
        · rw [List.getElem?_set_ne r,List.getElem?_map,List.getElem?_range hj]
          simp [setE,Ne.symm r]
      · rw [List.getElem?_eq_none (by simp;omega),List.getElem?_eq_none (by simp;omega)]
    · rw [List.getElem?_set_ne q,aeJ hi]
      congr 1
      refine List.map_congr_left fun j _=>?_
      simp [setE,Ne.symm q]
  · rw [List.getElem?_eq_none (by unfold tRows;simp;omega),List.getElem?_eq_none (by unfold tRows;simp;omega)]
structure FnZ (P:Program) (w:World) (K:PySem.W.Frag) (mg:Str->Option Value) (base:Heap) (k:Nat) (f:Addr) (fd:FuncData) (ps:List Str) (sp:SpD):Prop where
  len:∀ args Q E,sp args Q E->args.length=ps.length
  run:∀ (A:Around) (outer:List Env) (s:Shared) (H:Hp) (args:Args) (us:List Value) (vs:List V) (Q:VK) (E:XK),Room k A->Env0 P w K mg base A outer s H->BindsTo s fd args (ps.zip us)->Vals vs us->upSp K sp vs H Q E->
    codeAny (model P w) A (.call (.ref f) args) (L2.CR (L2N.CX P w) outer P w H s Q E) s
theorem FnZ.g {P:Program} {w:World} {K:PySem.W.Frag} {mg:Str->Option Value} {base:Heap} {k:Nat} {f:Addr} {fd:FuncData} {ps:List Str} {sp:SpD} (F:FnZ P w K mg base k f fd ps sp):FnG P w K mg base k f fd ps sp:=⟨F.len,fun A outer s H args us vs Q E hr _=>F.run A outer s H args us vs Q E hr⟩
theorem ang {P:Program} {w:World} {K:PySem.W.Frag} {mg:Str->Option Value} {base:Heap} {x qual:Str} {params:Arguments} {body:List Stmt} {scope:Scope} {dvs:List V} {kws:List (Str × V)} {f:Addr} {fd:FuncData} {N ps:List Str} {k:Nat} {sp:SpD} {t:TDS}
    (F:FunD K x qual params body scope dvs kws f fd) (S:FnScope N ps scope) (len:∀ args Q E,sp args Q E->args.length=ps.length) (nsee:∀ args Q E,sp args Q E->∀ (i:Nat) (o:OO),args[i]?≠some (.see o))
    (hd:∀ (cdv:Value) (A:Around) (outer:List Env) (s:Shared) (H:Hp) (E:XK),Room k (A.deeper (envOfC qual scope s.heap.objs.size f cdv))->
      DSs (cxOf (L2N.CX P w) P w K mg base N qual scope f cdv A outer s H E) (fun cls d _ H'=>E cls d H') body t)
    (hr:∀ args Q E,sp args Q E->t { nx:=fun _=>Q (.d .non),rt:=fun v _=>retQ Q v,bk:=fun _=>False,ct:=fun _=>False,xc:=fun cls fs _=>E cls fs } (startD N args)):FnZ P w K mg base (k + 1) f fd ps sp:=by
  obtain ⟨oc,od,dV,kV,doc,pm,an,cdv,ct,osl,rfl,lk,hcd,_,_⟩:=F.ex
  refine ⟨len,fun A outer s H args us vs Q E hroom e0 hb r hsp=>?_⟩
  obtain ⟨G,so,as,QD,ED,hrep,wv,q,hq,hx⟩:=ahP hsp
  have hl:vs.length=ps.length:=wv.length.trans (len _ _ _ q)
  have KX:K.In s.heap:=e0.mod.kin.keeps fun b o e=>(e0.bs b o e).1
  have lim:s.heap.NoLimit:=e0.mod.nolimit.keeps fun b o e=>(e0.bs b o e).1
  have hkind:((ps.zip us).all fun y=>scope.names.lookup y.1 == some .local || scope.names.lookup y.1 == some .cell)=true:=by
    rw [List.all_eq_true]
    rintro ⟨n,u⟩ hy
    rcases S.par n (List.of_mem_zip hy).1 with z | z
    · show (scope.names.lookup n == some .local || _)=true
      rw [z];rfl
    · show (scope.names.lookup n == some .local || scope.names.lookup n == some .cell)=true
      rw [z];rfl
  refine Att.call_fn KX lim lk hcd hroom.depth hb hkind (fun s1 x=>?_) S.co S.gen S.kind
  have I:=inv_start (CX:=L2N.CX P w) (E:=E) S hroom.hd e0 hl r x
  have rep:Rep K G so (L2.start N vs) H (startD N as):=agV hrep wv (nsee _ _ _ q)
  have no:∀ a,¬ Own (startD N as) (L2.start N vs) a:=fun a ⟨i,o,e,_⟩=>by
    obtain ⟨_,_,_,n⟩:=wv.get (acq e)
    exact n o rfl
  have body:=(hd cdv A outer s H E (hroom.deeper _)).run [] s1 (L2.start N vs) H { nx:=fun _ H'=>Q .non H',rt:=Q } I ⟨G,so,startD N as,_,rep,hr as QD ED q,
    ⟨fun σ' H' G' sl' p z=>hq .non H' G' (.d .non) ⟨p.ex,p.rep.h,fun a o e sa=>p.keep a o e sa (no a),fun a n g sa=>p.frm a n g sa (no a),.non,fun _ _ e=>(nomatch e),fun _ e=>(nomatch e)⟩ (fun _ e=>(nomatch e)) z,
     fun _ _ _ _ _ z=>z.elim,fun _ _ _ _ _ z=>z.elim,
     fun v H' G' dv _ p z=>hq v H' G' dv ⟨p.ex,p.hrep,fun a o e sa=>p.keep a o e sa (no a),fun a n g sa=>p.frm a n g sa (no a),p.val,fun a o e e2=>(p.new a o e e2).elim (fun k=>k) fun k=>absurd k (no a),(af6 z).1⟩ (ai6 z) (af6 z).2,
     fun cls d σ' H' G' fs sl' p z1 z2=>hx cls d H' G' fs ⟨p.ex,p.rep.h,fun a o e sa=>p.keep a o e sa (no a),fun a n g sa=>p.frm a n g sa (no a)⟩ z1 z2⟩⟩
  refine wpAny_mono body (fun fl s' hs=>?_) fun e s' hs=>hs
  cases fl with
  | ret u=>
    obtain ⟨v,σ',H',J,rv,z⟩:=hs
    exact ⟨v,H',J.os,J.bare,J.base,J.hok,rv,z⟩
  | next=>
    obtain ⟨σ',H',J,z⟩:=hs
    exact ⟨.non,H',J.os,J.bare,J.base,J.hok,rfl,z⟩
  | brk=>
    obtain ⟨_,_,_,z⟩:=hs
    exact False.elim z
  | cont=>
    obtain ⟨_,_,_,z⟩:=hs
    exact False.elim z
section
variable {P:Program} {w:World} {K:PySem.W.Frag} {mg:Str->Option Value} {base:Heap} {x qual:Str} {params:Arguments} {body:List Stmt} {scope:Scope} {dvs:List V} {kws:List (Str × V)} {fa:Addr} {fd:FuncData} {N:List Str} {k:Nat} {t:TDS}
abbrev BodyZ (P:Program) (w:World) (K:PySem.W.Frag) (mg:Str->Option Value) (base:Heap) (N:List Str) (qual:Str) (scope:Scope) (fa:Addr) (k:Nat) (body:List Stmt) (t:TDS):Prop:=
  ∀ (cdv:Value) (A:Around) (outer:List Env) (s:Shared) (H:Hp) (E:XK),Room k (A.deeper (envOfC qual scope s.heap.objs.size fa cdv))->
    DSs (cxOf (L2N.CX P w) P w K mg base N qual scope fa cdv A outer s H E) (fun cls d _ H'=>E cls d H') body t
theorem aex {f:D->PQ} {p0:Str} (F:FunD K x qual params body scope dvs kws fa fd) (S:FnScope N [p0] scope) (hd:BodyZ P w K mg base N qual scope fa k body t) (hr:∀ x0 Q E,f x0 Q E->t (endsF Q E) (startD N [.d x0])):FnZ P w K mg base (k + 1) fa fd [p0] (sp1 f):=
  ang F S (by rintro _ Q E ⟨x0,rfl,h⟩;rfl) (by rintro _ Q E ⟨x0,rfl,h⟩;exact no_see (ds:=[x0]) (pre:=[]) (fun _ h=>by cases h)) hd (by rintro _ Q E ⟨x0,rfl,h⟩;exact hr x0 Q E h)
end
section
variable {X:Cx} {W:WX} {k n:Nat} {f:Addr} {fd:FuncData} {ps ks:List Str} {sp:SpD} {sel:List Sel} {x nm:Str} {p pos kpos:Pos} {e:Expr} {es:List Expr} {kws:List Keyword} {ta tk tk':TDA} {te:TD}
theorem ai3 {pins:List (Addr × Obj)} {σ:L2.St} {H G:Hp} {so:So} {sl:DSt} {s:Shared} {Q:VK} {us ws:List Value} {vs qs:List V} {ds es:List DV} {Q':DV->DSt->Prop} {E:XP} (F:FnZ X.prog X.w X.K X.mg X.base k f fd ps sp) (hr:Room k X.A) (tk:L2N.Takes X W) (hb:Bd X.K fd ps n ks sel)
    (I:Inv X pins σ H s) (rep:Rep X.K G so σ H sl) (r:Vals vs us) (r2:Vals qs ws) (w:VsOk X.K G so H vs ds) (w2:VsOk X.K G so H qs es) (l1:ds.length=n) (l2:es.length=ks.length)
    (q:sp (sel.map (pickD ds es)) (fun v=>Q' v sl) fun cls fs=>E cls fs sl) (hq:∀ v H' G' dv sl',PostE X.K G so σ H sl v H' G' dv sl'->Q' dv sl'->Q v H') (hx:XOk X.K W G so σ H sl E) :
    wpAny (model X.prog X.w) X.A (call (.ref f) us (ks.zip ws)) (EP X pins σ Q) X.xe s:=by
  obtain ⟨zs,bt,rz⟩:=hb.to s us ws vs qs I.kIn (by rw [<- r.length,w.length,l1]) (by rw [<- r2.length,w2.length,l2]) r r2
  have pk:=w.pick w2 sel hb.dok
  refine wpAny_call (codeAny_mono (F.run X.A X.stack s H ⟨us,ks.zip ws⟩ zs (sel.map (pickV vs qs)) Q (fun cls d H'=>W cls d σ H') hr I.env0 bt rz ⟨G,so,_,_,_,rep.h,pk,q,fun v H' G' dv pv z=>hq v H' G' dv sl (pv.slots rep) z,fun cls d H' G' fs ph z1 z2=>?_⟩) fun r s' hz=>?_)
  · have pn:PostV X.K G so H .non H' G' (.d .non):=⟨ph.ex,ph.hrep,ph.keep,ph.frm,.non,fun _ _ e=>(nomatch e),fun _ e=>(nomatch e)⟩
    exact hx cls d H' G' fs sl (pn.slots rep).toPost z1 z2
  · cases r with
    | error e=>exact tk e s' (L2N.XE.of_call I (fun _ _ _ z=>z) hz)
    | ok fl=>
      cases fl with
      | ret u=>exact I.after hz
      | next=>exact False.elim hz
      | brk=>exact False.elim hz
      | cont=>exact False.elim hz
theorem akJ (F:FnZ X.prog X.w X.K X.mg X.base k f fd ps sp) (hr:Room k X.A) (tk:L2N.Takes X W) (hb:Bd X.K fd ps n [] sel) (hg:Gl X x) (hm:X.mg x=some (.ref f)) (hk:PySem.W.keepIn X.K (.ref f)=true)
    (ha:DA X W (e::es) ta) (hdb:(x == ("__debug__":Str))=false:=by decide) (he:starEach (e::es) X.env=(false,eval e X.env)::starEach es X.env:=by rfl) (hpl:(backTo pos (starEach es X.env)).any (·.1)=false:=by rfl) :
    DE X W (.Call (.Name x p) (e::es) [] pos) (dCall sp n 0 sel ta dNil):=by
  refine ⟨fun pins s σ H Q I ⟨G,so,sl,Q',E,rep,q,hq,hx⟩=>wpAny_Call_Name_kw (ld_glob I hg hm ?_ hdb)⟩
  refine PySem.W.callWith_K (h₀:=X.base) I.ok.mod.kin hk (thn (ha.run pos pins s σ H (fun vs H1=>∃ G1 ds s1,Post X.K G so σ H sl H1 G1 s1/\VsOk X.K G1 so H1 vs ds/\ds.length=n/\sp (sel.map (pickD ds [])) (fun v=>Q' v s1) fun cls fs=>E cls fs s1) I
    ⟨G,so,sl,_,E,rep,q,fun vs H1 G1 ds s1 p1 w z=>⟨G1,ds,s1,p1,w,z.1,z.2.2⟩,hx⟩) fun us s1 ⟨vs,H1,I1,r,G1,ds,sl1,p1,w,l1,z⟩=>⟨I1.kIn,?_⟩) he hpl
  exact ai3 (ws:=[]) (qs:=[]) (es:=[]) F hr tk hb I1 p1.rep r .nil w .nil l1 rfl z (fun v H' G' dv sl' pe z'=>hq v H' G' dv sl' (p1.thenE pe) z') (hx.step p1)
end
section
variable {X:Cx} {W:WX} {k n:Nat} {f C:Addr} {fd:FuncData} {ps ks:List Str} {sp:SpD} {sel:List Sel} {m nm:Str} {p pos apos kpos:Pos} {o e:Expr} {es:List Expr} {kws:List Keyword} {ta tk tk':TDA} {to te:TD} {pl:Sem Bool}
theorem ajU (he:DE X W o to) (c:Cls X.K C) (hm:Meth X.K C m f) (F:FnZ X.prog X.w X.K X.mg X.base k f fd ps sp) (hr:Room k X.A) (tk:L2N.Takes X W) (hb:Bd X.K fd ps (0 + 1) [] sel)
    (ht:eval (.Call (.Attribute o m apos) [] [] pos) X.env=(do
      let ov <- eval o X.env
      standAt apos.atName
      let (f,first) <- holding [ov] (getMethod ov m pl)
      callWith pos f first (backTo pos (starEach [] X.env)) (backToKw pos (keywordEach [] X.env))):=by rfl) :
    DE X W (.Call (.Attribute o m apos) [] [] pos) (dMeth sp C m 0 0 sel to dNil dNil):=by
  refine ⟨fun pins s σ H Q I ⟨G,so,sl,Q',E,rep,q,hq,hx⟩=>?_⟩
  refine PySem.W.methodCall_KW (pl:=pl) (thn (he.run pins s σ H (fun v H1=>∃ G1 s1 fs,PostE X.K G so σ H sl v H1 G1 (.d (.ins C fs)) s1/\fs.lookup m=none/\sp (sel.map (pickD [.d (.ins C fs)] [])) (fun v=>Q' v s1) fun cls fs=>E cls fs s1) I
    ⟨G,so,sl,_,E,rep,q,fun v H1 G1 dv s1 p1 z=>?_,hx⟩) fun u s1 ⟨x,H1,I1,rx,G1,sl1,fs,p1,l,z⟩=>?_) ht
  · obtain ⟨G2,p2⟩:=p1.pub
    split at z
    · rename_i D fs ed
      obtain ⟨rfl,l,z⟩:=z
      exact ⟨G2,s1,fs,by rw [<- ed];exact p2,l,z.2.2⟩
    · exact z.elim
  · obtain ⟨a,dx,vs,ex,ea,fa⟩:=VOk.inst p1.rep.h p1.val rfl
    subst ex
    obtain rfl:u=Value.ref a:=rx
    refine getmeth_ok I1 ea c hm (fa.lookN l) ?_
    exact PySem.W.callWith_K0 (first:=[.ref a]) I1.kIn hm.kp (ai3 (us:=[.ref a]) (vs:=[.ref a]) (ds:=[.d (.ins C fs)]) (ws:=[]) (qs:=[]) (es:=[]) F hr tk hb I1 p1.rep (.cons rfl .nil) .nil (.cons p1.val (fun _ e=>(nomatch e)) .nil) .nil rfl rfl z (fun v H' G' dv sl' pe z'=>hq v H' G' dv sl' (p1.toPost.thenE pe) z') (hx.step p1.toPost))
end
section
variable {X:Cx} {W:WX} {k:Nat} {C p g:Addr} {f:Str} {fd:FuncData} {ps:List Str} {sp:SpD} {e:Expr} {te:TD} {pos:Pos}
theorem getpropZ {pins:List (Addr × Obj)} {σ:L2.St} {H:Hp} {s:Shared} {Q:VK} {b:Bool} {a dx:Addr} {fs:List (Str × V)} (I:Inv X pins σ H s) (ea:H a=some (.ins C dx fs)) (c:Cls X.K C) (hp:PropOf X.K C f p g) (F:FnZ X.prog X.w X.K X.mg X.base k g fd ps sp) (hr:Room (k + 1) X.A)
    (hb:Binds X.K fd ps []) (h:upSp X.K sp [.ref a] H Q fun _ _ _=>False):wpAny (model X.prog X.w) X.A (getAttr (.ref a) f b) (EP X pins σ Q) X.xe s:=by
  obtain ⟨mA,O,_,_,_,_⟩:=ins_get I.hok ea
  obtain ⟨od,J,_⟩:=O.look
  obtain ⟨rest,hrec⟩:=hp.rec_
  have I1:=I.tok (s.toks + 1)
  have hl:[Value.ref a].length=ps.length:=by
    obtain ⟨G,so,as,QD,ED,hh,w,z,_⟩:=h
    have:=F.len _ _ _ z
    rw [<- this,<- w.length];rfl
  have hc:(PySem.W.clsIn X.K C).isSome=true:=by
    obtain ⟨cd,hc,_⟩:=PySem.W.any_some c.hd
    rw [hc];rfl
  have e:=I1.env0
  refine PySem.W.get_bind I.kIn J (PySem.W.plainGet_of (c.get f)).1 (PySem.W.findObj_data hc hp.at_ hp.get hp.tak) (PySem.W.plainGet_of (c.get f)).2 (wpAny_call (PySem.W.prop_get (s:={ s with toks:=s.toks + 1 }) I.kIn hrec ?_))
  refine codeAny_mono (F.run X.A.in1 X.stack { s with toks:=s.toks + 1 } H ⟨[.ref a],[]⟩ [.ref a] [.ref a] Q (fun _ _ _=>False) hr.in1 e.in1 (by
    have:=hb { s with toks:=s.toks + 1 } [.ref a] I1.kIn (by simpa using hl)
    simpa using this) (.cons rfl .nil) h) fun r s' hq=>?_
  cases r with
  | error er=>
    obtain ⟨_,_,_,_,_,_,_,_,_,_,_,_,z⟩:=hq
    exact z.elim
  | ok fl=>
    cases fl with
    | ret u=>
      obtain ⟨v,H',I3,rv,q3⟩:=I1.after hq
      show wpAny _ _ (handedOut u) _ _ _
      rw [PySem.W.handedOut_of (handed_of rv)]
      exact wpAny_pure ⟨v,H',I3,rv,q3⟩
    | next=>exact False.elim hq
    | brk=>exact False.elim hq
    | cont=>exact False.elim hq
theorem aig (he:DE X W e te) (c:Cls X.K C) (hp:PropOf X.K C f p g) (F:FnZ X.prog X.w X.K X.mg X.base k g fd ps sp) (hr:Room (k + 1) X.A) (hb:Binds X.K fd ps [])
    (hab:attributeBase e f X.env (eval e X.env)=eval e X.env:=by rfl):DE X W (.Attribute e f pos) (dProp C sp te):=by
  refine ⟨fun pins s σ H R I ⟨G,so,sl,Q,E,rep,q,hq,hx⟩=>?_⟩
  refine attr_of hab (thn (he.run pins s σ H (fun v H1=>∃ G1 s1 fs,PostE X.K G so σ H sl v H1 G1 (.d (.ins C fs)) s1/\sp [.d (.ins C fs)] (fun v=>Q v s1) fun _ _=>False) I ⟨G,so,sl,_,E,rep,q,fun v H1 G1 dv s1 p1 z=>?_,hx⟩) fun u s1 ⟨x,H1,I1,rx,G1,sl1,fs,p1,z⟩=>?_)
  · obtain ⟨G2,p2⟩:=p1.pub
    split at z
    · rename_i D fs ed
      obtain ⟨rfl,z⟩:=z
      exact ⟨G2,s1,fs,by rw [<- ed];exact p2,z⟩
    · exact z.elim
  · obtain ⟨a,dx,vs,rfl,ea,_⟩:=VOk.inst p1.rep.h p1.val rfl
    obtain rfl:u=Value.ref a:=rx
    exact getpropZ I1 ea c hp F hr hb ⟨G1,so,_,_,_,p1.rep.h,.cons p1.val (fun _ e=>(nomatch e)) .nil,z,fun v H' G' dv pv y=>hq v H' G' dv sl1 (p1.toPost.thenE (pv.slots p1.rep)) y,fun _ _ _ _ _ _ _ y=>y⟩
end
section
variable {X:Cx} {W:WX} {k:Nat} {f:Addr} {fd:FuncData} {ps:List Str} {sp:SpD}
theorem aki {pins:List (Addr × Obj)} {σ:L2.St} {H:Hp} {s:Shared} {Q:VK} {A:Around} {us:List Value} {vs:List V} {E:Value->Shared->Prop} (F:FnZ X.prog X.w X.K X.mg X.base k f fd ps sp) (hr:Room k A) (hf:A.frames=X.A.frames) (hb:Binds X.K fd ps [])
    (I:Inv X pins σ H s) (r:Vals vs us) (q:upSp X.K sp vs H Q fun _ _ _=>False) :
    wpAny (model X.prog X.w) A (call (.ref f) us) (EP X pins σ Q) E s:=by
  have e:=I.env0
  have e0:Env0 X.prog X.w X.K X.mg X.base A X.stack s H:=⟨by rw [hf];exact e.frames,e.mod,e.bs,e.bsz,e.funs,e.frf,e.hok,e.bare⟩
  have hl:us.length=ps.length:=by
    obtain ⟨G,so,as,QD,ED,h,w,z,_⟩:=q
    rw [<- r.length,w.length]
    exact F.len _ _ _ z
  refine wpAny_call (codeAny_mono (F.run A X.stack s H ⟨us,[]⟩ us vs Q (fun _ _ _=>False) hr e0 (by
    have:=hb s us I.kIn (by simpa using hl)
    simpa using this) r q) fun r s' hz=>?_)
  cases r with
  | error e=>
    obtain ⟨a,B,H',cls,d,_,_,_,_,_,_,_,z⟩:=hz
    exact z.elim
  | ok fl=>
    cases fl with
    | ret u=>exact I.after hz
    | next=>exact False.elim hz
    | brk=>exact False.elim hz
    | cont=>exact False.elim hz
end
end DL
namespace PySem.W
open PySem PySem.Calls PyProof.Rows Builtin
section
variable {prog:Program} {w:World} {A:Around} {E:Value->Shared->Prop} {s:Shared} {K:Frag} {x C L f:Addr} {h₀:Heap} {m:Str->Option Value} {ox:Obj} {od:Option Obj} {name:Str}
theorem ahF {M:Model} {last:Value->List Value->Sem Value} {Q:Option Value->Shared->Prop} (X:K.In s.heap) (I:InstAt s.heap x ox C od) (hs:findIn K (.ref C) name=some (some (.ref f))) (hf:isFn K (.ref f)=true)
    (h:wpAny M A (last (.ref f) [.ref x]) (fun v=>Q (some v)) E s):wpAny M A (callSpecialIfBoundBy? last (.ref x) name) Q E s:=by
  simp only [callSpecialIfBoundBy?,bindSpecialIfBound?]
  refine wpAny_holding (wpAny_bind (wpAny_bind (wpAny_bind (I.type.here ((looks_findIn X hs).here ?_)))))
  refine wpAny_bind (wpAny_askSetting (wpAny_ite ?_))
  have fin:wpAny M A (last (.ref f) [.ref x] >>= fun v=>pure (some v)) Q E s:=wpAny_bind (wpAny_mono h (fun v s' h'=>wpAny_pure h') fun _ _ h'=>h')
  split
  · exact wpAny_bind ((bind_fn X _ (beq_iff_eq.mp hf)).here (wpAny_pure (by exact fin)))
  · exact wpAny_tryCatch (wpAny_bind ((bind_fn X _ (beq_iff_eq.mp hf)).here (wpAny_pure (by exact fin))))
theorem reprUnder_K {base:Nat} {Q:Value->Shared->Prop} (hu:A.units < cLine) (F:Fr h₀ L s.heap m) (X₀:K.In h₀) (I:InstAt s.heap x ox C od) (hs:findIn K (.ref C) "__repr__"=some (some (.ref f))) (hf:isFn K (.ref f)=true)
    (h:wpAny (model prog w) A (call (.ref f) [.ref x]) (StrBack Q) E s):wpAny (model prog w) A (pyReprObjUnder base (.ref x)) Q E s:=by
  unfold pyReprObjUnder pyReprObjBy
  refine wpAny_bind (wpAny_cRoomFor hu ?_)
  refine wpAny_bind (wpAny_bind (I.type.here ((looks_findIn (X₀.keeps F.keep) hs).here ?_)))
  show wpAny _ _ (if (some (Value.ref f)).isNone=true then _ else _) _ _ _
  rw [if_neg (by simp)]
  refine wpAny_bind (m:=callSpecialIfBoundBy? _ (.ref x) (Str.ofString "__repr__")) (ahF (X₀.keeps F.keep) I hs hf (wpAny_mono h (fun r s' hr=>?_) fun _ _ y=>y))
  cases r<;>first | exact hr.elim | skip
  refine wpAny_bind (wpAny_isInstance (typeIs_str _ _ _) isSubtype_str_str ?_)
  first
    | exact wpAny_pure hr
    | (rw [if_pos rfl];exact wpAny_pure hr)
    | (simp only [if_true];exact wpAny_pure hr)
end
end PySem.W
namespace DL
open PySem PySem.Spec PyProof.Rows L2
mutual
def dpI:D->Nat
  | .lst ds=>dpIs ds + 1
  | .tup ds=>dpIs ds + 1
  | .non=>0
  | .bl _=>0
  | .int _=>0
  | .str _=>0
  | .ins _ _=>0
  | .dk _=>0
  | .dt _=>0
  | .any=>0
  | .raw _=>0
  | .kt _=>0
def dpIs:List D->Nat
  | []=>0
  | d::r=>max (dpI d) (dpIs r)
end
mutual
def txI (rp:List (Str × D)->Str):D->Str
  | .non=>"None"
  | .bl b=>if b then "True" else "False"
  | .int i=>toString i
  | .str x=>reprText x
  | .lst ds=>listText (txIs rp ds)
  | .tup ds=>tupleText (txIs rp ds)
  | .ins _ fs=>rp fs
  | .dk _=>""
  | .dt _=>""
  | .any=>""
  | .raw _=>""
  | .kt _=>""
def txIs (rp:List (Str × D)->Str):List D->List Str
  | []=>[]
  | d::r=>txI rp d::txIs rp r
end
mutual
def okI (C:Addr) (P:List (Str × D)->Prop):D->Prop
  | .non=>True
  | .bl _=>True
  | .str _=>True
  | .int i=>i.natAbs.log2 < 1920
  | .lst ds=>okIs C P ds
  | .tup ds=>okIs C P ds
  | .ins D fs=>D=C/\P fs
  | .dk _=>False
  | .dt _=>False
  | .any=>False
  | .raw _=>False
  | .kt _=>False
def okIs (C:Addr) (P:List (Str × D)->Prop):List D->Prop
  | []=>True
  | d::r=>okI C P d/\okIs C P r
end
theorem afZ (rp:List (Str × D)->Str):∀ ds:List D,(txIs rp ds).length=ds.length
  | []=>rfl
  | _::r=>congrArg (· + 1) (afZ rp r)
theorem ahR (rp:List (Str × D)->Str):∀ {ds:List D} {i:Nat} {d:D},ds[i]?=some d->(txIs rp ds)[i]?=some (txI rp d)
  | [],_,_,e=>by simp at e
  | _::_,0,_,e=>by simp at e;subst e;rfl
  | _::r,i + 1,_,e=>by
    have:=ahR rp (ds:=r) (i:=i) (by simpa using e)
    simpa [txIs] using this
theorem ajT:∀ {ds:List D} {d:D},d∈ds->dpI d<=dpIs ds
  | [],_,h=>by cases h
  | e::r,d,h=>by
    unfold dpIs
    rcases List.mem_cons.mp h with rfl | h
    · exact Nat.le_max_left _ _
    · exact Nat.le_trans (ajT h) (Nat.le_max_right _ _)
section
variable {X:Cx} {pins:List (Addr × Obj)} {σ:L2.St} {G G' H:Hp} {s:Shared} {C:Addr} {P:List (Str × D)->Prop}
theorem ajr (I:Inv X pins σ H s) {a:Addr} {vs ws:List V} (h1:H a=some (.lst vs)) (h2:SqT X.K H a ws):False:=by
  obtain ⟨its,_,⟨o,n,e,hc,_,_⟩,_⟩:=I.list (SqL.of h1)
  obtain ⟨its',_,⟨o',e',hc',_,_⟩,_⟩:=I.tuple h2
  rw [e] at e';cases e'
  rw [hc] at hc'
  injection hc' with q
  exact absurd q (by decide)
theorem ajI (I:Inv X pins σ H s) {a D dx:Addr} {fs:List (Str × V)} {ws:List V} (h1:H a=some (.ins D dx fs)) (h2:SqT X.K H a ws):False:=by
  obtain ⟨mA,J,_⟩:=ins_get I.hok h1
  obtain ⟨od,J,_⟩:=J.look
  obtain ⟨its',_,⟨o',e',hc',_,_⟩,_⟩:=I.tuple h2
  have q:=J.at_
  rw [e'] at q;cases q
  have c:=J.cls
  rw [hc'] at c;cases c
mutual
theorem ajS (I:Inv X pins σ H s) (ex:Ex G H):∀ (d d':D) (v:V),okI C P d->okI C P d'->DOk X.K G v d->DOk X.K G v d'->dpI d=dpI d'
  | .non,d',v,o,o',h,h'=>by cases h;cases h'<;>first | rfl | exact o'.elim
  | .bl _,d',v,o,o',h,h'=>by cases h;cases h'<;>first | rfl | exact o'.elim
  | .int _,d',v,o,o',h,h'=>by cases h;cases h'<;>first | rfl | exact o'.elim
  | .str _,d',v,o,o',h,h'=>by cases h;cases h'<;>first | rfl | exact o'.elim
  | .lst ds,d',v,o,o',h,h'=>by
    cases h with
    | lst g al=>
      cases h' with
      | lst g' al'=>
        rw [g] at g';cases g'
        exact congrArg (· + 1) (agt I ex ds _ _ o o' al al')
      | tup g' _=>exact (ajr I (ex _ _ g) (ex_t ex g')).elim
      | ins g' _ _=>rw [g] at g';cases g'
      | any=>exact o'.elim
      | dk _ _=>exact o'.elim
      | dt _ _=>exact o'.elim
      | raw=>exact o'.elim
      | kt _=>exact o'.elim
  | .tup ds,d',v,o,o',h,h'=>by
    cases h with
    | tup g al=>
      cases h' with
      | tup g' al'=>
        have e:=I.tuple_inj (ex_t ex g) (ex_t ex g')
        subst e
        exact congrArg (· + 1) (agt I ex ds _ _ o o' al al')
      | lst g' _=>exact (ajr I (ex _ _ g') (ex_t ex g)).elim
      | ins g' _ _=>exact (ajI I (ex _ _ g') (ex_t ex g)).elim
      | any=>exact o'.elim
      | dk _ _=>exact o'.elim
      | dt _ _=>exact o'.elim
      | raw=>exact o'.elim
      | kt _=>exact o'.elim
  | .ins _ _,d',v,o,o',h,h'=>by
    cases h with
    | ins g _ _=>
      cases h' with
      | tup g' _=>exact (ajI I (ex _ _ g) (ex_t ex g')).elim
      | lst g' _=>rw [g] at g';cases g'
      | ins _ _ _=>rfl
      | any=>exact o'.elim
      | dk _ _=>exact o'.elim
      | dt _ _=>exact o'.elim
      | raw=>exact o'.elim
      | kt _=>exact o'.elim
  | .dk _,_,_,o,_,_,_=>o.elim
  | .dt _,_,_,o,_,_,_=>o.elim
  | .any,_,_,o,_,_,_=>o.elim
  | .raw _,_,_,o,_,_,_=>o.elim
  | .kt _,_,_,o,_,_,_=>o.elim
theorem agt (I:Inv X pins σ H s) (ex:Ex G H):∀ (ds ds':List D) (vs:List V),okIs C P ds->okIs C P ds'->DAll X.K G vs ds->DAll X.K G vs ds'->dpIs ds=dpIs ds'
  | [],_,_,_,_,h,h'=>by cases h;cases h';rfl
  | d::r,_,_,o,o',h,h'=>by
    cases h with
    | cons h1 h2=>
      cases h' with
      | cons h1' h2'=>
        show max _ _=max _ _
        rw [ajS I ex d _ _ o.1 o'.1 h1 h1',agt I ex r _ _ o.2 o'.2 h2 h2']
end
def GdOk (X:Cx) (C:Addr) (P:List (Str × D)->Prop) (G:Hp) (g:List Code) (n:Nat):Prop:=∀ (id:String) (v:Value) (rest:List Value) (kw:List (Str × Value)),Code.builtin id ⟨v::rest,kw⟩∈g->∃ a d,v=.ref a/\DOk X.K G (.ref a) d/\okI C P d/\n < dpI d
theorem GdOk.nil {n:Nat}:GdOk X C P G [] n:=fun _ _ _ _ h=>nomatch h
theorem GdOk.mono {g:List Code} {n m:Nat} (h:GdOk X C P G g n) (e:Ex G G') (l:m<=n):GdOk X C P G' g m:=fun id v rest kw q=>by
  obtain ⟨a,d,e1,e2,e3,e4⟩:=h id v rest kw q
  exact ⟨a,d,e1,e2.mono e,e3,by omega⟩
theorem GdOk.cons {g:List Code} {n m:Nat} {a:Addr} {d:D} {id:String} {rest:List Value} {kw:List (Str × Value)} (h:GdOk X C P G g n) (w:DOk X.K G (.ref a) d) (o:okI C P d) (l:m < dpI d) (l2:m<=n):GdOk X C P G (.builtin id ⟨.ref a::rest,kw⟩::g) m:=fun id' v rest' kw' q=>by
  rcases List.mem_cons.mp q with e | q
  · cases e
    exact ⟨a,d,rfl,w,o,l⟩
  · exact h.mono (Ex.refl G) l2 id' v rest' kw' q
theorem GdOk.clear {g:List Code} {n:Nat} {b:Addr} {d:D} (h:GdOk X C P G g n) (I:Inv X pins σ H s) (ex:Ex G H) (w:DOk X.K G (.ref b) d) (o:okI C P d) (l:dpI d<=n):Clear g b:=fun id v rest kw m e=>by
  obtain ⟨a,d',rfl,w',o',l'⟩:=h id v rest kw m
  cases e
  have:=ajS I ex d d' _ o o' w w'
  omega
end
theorem Room.shown {k:Nat} {A:Around} {c:Code} (r:Room (k + 1) A) (hw:c.weight<=1) (hu:(A.under c).units=A.units + 1):Room k (A.under c):=
  ⟨r.hd,by have:=r.dp;show A.depth + c.weight + 3 * k + 5 < _;omega,by have:=r.un;rw [hu];omega⟩
theorem ad6 {A:Around} {id:String} {args:Args} (hi:(Code.builtin id args).isFrame=false):(A.under (.builtin id args)).frames=A.frames:=by
  simp [Around.under,Code.envs,hi,pushEnvs]
theorem amx (args:Args):(Code.builtin "list.__repr__.loop" args).weight<=1:=by simp [Code.weight,Code.frames,Code.isFrame,Code.isCreation,Code.isGuard,Code.isCaller,guardIds]
theorem w_tup (args:Args):(Code.builtin "tuple.__repr__" args).weight<=1:=by simp [Code.weight,Code.frames,Code.isFrame,Code.isCreation,Code.isGuard,Code.isCaller,guardIds]
theorem amw (args:Args):(Code.builtin "tuple.__repr__.under" args).weight<=1:=by simp [Code.weight,Code.frames,Code.isFrame,Code.isCreation,Code.isGuard,Code.isCaller,guardIds]
def RI (X:Cx) (k:Nat) (C:Addr) (P:List (Str × D)->Prop) (rp:List (Str × D)->Str) (d:D):Prop:=
  ∀ (base:Nat) (A:Around) (g:List Code) (pins:List (Addr × Obj)) (σ:L2.St) (G H:Hp) (so:So) (s:Shared) (v:V) (u:Value) (E:Value->Shared->Prop) (Q:Str->Shared->Prop),
    base + (txI rp d).length<=sizeLine->A.frames=X.A.frames->Room (k + dpI d) A->A.guards=some g->GdOk X C P G g (dpI d)->Inv X pins σ H s->HRep X.K G so H->DOk X.K G v d->RelV v u->
    (∀ s' H' G',Inv X pins σ H' s'->PostH X.K G so H H' G'->Q (txI rp d) s')->wpAny (model X.prog X.w) A (pyReprUnder base u) Q E s
section
variable {X:Cx} {k:Nat} {C f:Addr} {fd:FuncData} {ps:List Str} {sp:SpD} {P:List (Str × D)->Prop} {rp:List (Str × D)->Str}
theorem amM (hm:Meth X.K C "__repr__" f) (F:FnZ X.prog X.w X.K X.mg X.base k f fd ps sp) (hb:Binds X.K fd ps []) {fs:List (Str × D)} (hP:sp [.d (.ins C fs)] (fun v=>v=.d (.str (rp fs))) fun _ _=>False):RI X k C P rp (.ins C fs):=by
  intro base A g pins σ G H so s v u E Q hbs hfr hr hg gd I hrep w ru hQ
  obtain ⟨a,dx,vs,rfl,ea,_⟩:=VOk.inst hrep (show VOk X.K G so H v (.d (.ins C fs)) from w) rfl
  obtain rfl:u=.ref a:=ru
  obtain ⟨mA,J,_⟩:=ins_get I.hok ea
  obtain ⟨od,J,_⟩:=J.look
  obtain ⟨m,hF⟩:=I.fr
  refine wpAny_pyReprUnder_ref (by omega) ?_
  refine PySem.W.reprUnder_K (h₀:=X.base) hr.units0 hF I.ok.mod.kin J hm.at_ hm.fn ?_
  refine wpAny_mono (aki (E:=E) (A:=A) (Q:=fun x H'=>x=.str (rp fs)/\∃ G',PostH X.K G so H H' G') F (hr.mono (Nat.le_add_right _ _)) hfr hb I (vs:=[.ref a]) (.cons rfl .nil)
    ⟨G,so,[.d (.ins C fs)],_,_,hrep,.cons w (fun _ z=>(nomatch z)) .nil,hP,fun x H' G' dv p z=>?_,fun _ _ _ _ _ _ _ z=>z⟩) (fun y s' hv=>?_) fun _ _ x=>x
  · subst z
    have e:x=.str (rp fs):=by
      have:=p.val
      cases this;rfl
    exact ⟨e,G',p.ex,p.hrep,p.keep,p.frm⟩
  · obtain ⟨z,H',I',rz,e,G',p⟩:=hv
    subst e
    obtain ⟨t,rfl⟩:∃ t,y=.str (rp fs) t:=rz
    exact ⟨_,_,rfl,hQ _ _ _ I' p⟩
theorem agD {A:Around} {g:List Code} {E:Value->Shared->Prop} {pins:List (Addr × Obj)} {σ:L2.St} {so:So} {n:Nat} (hfr:A.frames=X.A.frames) (hr:Room (k + n) A) (hg:A.guards=some g) :
    ∀ (ds:List D) (vs:List V) (l:List Value) (acc:Array Str) (b:Nat) (s:Shared) (G H:Hp) (Q:(Array Str × Nat)->Shared->Prop),(∀ d∈ds,RI X k C P rp d)->DAll X.K G vs ds->Vals vs l->dpIs ds<=n->GdOk X C P G g n->b + piled (txIs rp ds)<=sizeLine->
      Inv X pins σ H s->HRep X.K G so H->(∀ s' H' G',Inv X pins σ H' s'->PostH X.K G so H H' G'->Q ⟨acc++(txIs rp ds).toArray,b + piled (txIs rp ds)⟩ s')->wpAny (model X.prog X.w) A (forIn l (⟨acc,b⟩:(Array Str × Nat)) tupBody) Q E s
  | [],_,_,acc,b,s,G,H,Q,_,.nil,rv,_,_,_,I,hrep,h=>by
    cases rv
    have h0:=h s H G I (.refl hrep)
    simp only [List.forIn_nil]
    exact wpAny_pure (by simpa [piled,txIs] using h0)
  | d::ds,_,_,acc,b,s,G,H,Q,hT,.cons w1 w2,rv,hn,gd,hsz,I,hrep,h=>by
    cases rv with
    | cons r1 r2=>
      have e0:txIs rp (d::ds)=txI rp d::txIs rp ds:=rfl
      rw [e0,piled_cons] at hsz
      unfold dpIs at hn
      have n1:dpI d<=n:=Nat.le_trans (Nat.le_max_left _ _) hn
      have n2:dpIs ds<=n:=Nat.le_trans (Nat.le_max_right _ _) hn
      rw [List.forIn_cons]
      refine wpAny_bind (wpAny_bind (hT d (List.mem_cons_self ..) (b + 1) A g pins σ G H so s _ _ _ _ (by omega) hfr (hr.mono (by omega)) hg (gd.mono (Ex.refl G) n1) I hrep w1 r1 fun s1 H1 G1 I1 p1=>wpAny_pure ?_))
      refine agD hfr hr hg ds _ _ (acc.push (txI rp d)) (b + ((txI rp d).length + 2)) _ G1 H1 Q (fun d' hd=>hT d' (List.mem_cons_of_mem _ hd)) (w2.mono p1.ex) r2 n2 (gd.mono p1.ex (Nat.le_refl _)) (by omega) I1 p1.hrep fun s2 H2 G2 I2 p2=>?_
      have h1:=h s2 H2 G2 I2 (p1.trans p2)
      rw [e0,piled_cons] at h1
      have e:b + ((txI rp d).length + 2 + piled (txIs rp ds))=b + ((txI rp d).length + 2) + piled (txIs rp ds):=by omega
      rw [e] at h1
      simpa using h1
theorem agE {ds:List D} (hT:∀ d∈ds,RI X k C P rp d) {A:Around} {g:List Code} {pins:List (Addr × Obj)} {σ:L2.St} {so:So} {s:Shared} {G H:Hp} {a:Addr} {R:Result->Shared->Prop} {base:Nat} {id:String} {rest:List Value}
    (hcg:(Code.builtin id ⟨.ref a::rest,[]⟩).isGuard=true) (hcu:(A.under (.builtin id ⟨.ref a::rest,[]⟩)).units=A.units + 1) (hcf:(Code.builtin id ⟨.ref a::rest,[]⟩).isFrame=false) (hcw:(Code.builtin id ⟨.ref a::rest,[]⟩).weight<=1)
    (hsz:base + (tupleText (txIs rp ds)).length<=sizeLine) (hfr:A.frames=X.A.frames) (hr:Room (k + dpIs ds + 1) A) (hg:A.guards=some g) (gd:GdOk X C P G g (dpIs ds + 1)) (I:Inv X pins σ H s) (hrep:HRep X.K G so H) (w:DOk X.K G (.ref a) (.tup ds)) (o:okI C P (.tup ds))
    (hR:∀ s' H' G' u,Inv X pins σ H' s'->PostH X.K G so H H' G'->R (.ok (.ret (.str (tupleText (txIs rp ds)) u))) s') :
    wpOwn (model X.prog X.w) A (.builtin id ⟨.ref a::rest,[]⟩) (Builtin.tupleReprAt base ⟨[.ref a],[]⟩) (fun fin s'=>match fin with | .done f=>R (.ok f) s' | .again c'=>c'.quiet=true/\codeAny (model X.prog X.w) A c' R s') (fun e s'=>R (.error e) s') s:=by
  have hca:Clear g a:=gd.clear I hrep.ex w o (Nat.le_refl _)
  have w':=w
  cases w' with
  | tup g0 al=>
    obtain ⟨its,rv,⟨ob,ha,hc,n,hd⟩,_⟩:=I.tuple (ex_t hrep.ex g0)
    have hlen:(txIs rp ds).length=its.toArray.size:=by rw [afZ,<- al.length,rv.length];simp
    have hp:=piled_le_tupleText (txIs rp ds)
    have hsz0:(tupleText (txIs rp ds)).length<=sizeLine:=by omega
    rw [tuple_repr_tree,tupleReprUnderWay_eq]
    refine wpOwn_bind (wpOwn_stackTailAny hg (tupGuardF_off _) (tupGuardF_pos _) ?_)
    have hn:(g.any fun c=>tupGuardF (.ref a) (c,default))=false:=by
      rw [List.any_eq_false]
      intro c hcm
      rw [tupGuardF_of_clear hca c hcm]
      exact Bool.false_ne_true
    rw [hn]
    refine wpOwn_of_wpAny ?_
    show wpAny _ _ (tupleReprRest base (.ref a)) _ _ s
    unfold tupleReprRest Builtin.Tuple.tupleItemsOf
    refine wpAny_bind (wpAny_bind (wpAny_seqItems ha hd (wpAny_pure ?_)))
    rw [<- Array.forIn_toList]
    refine wpAny_bind (agD (n:=dpIs ds) (by rw [ad6 hcf];exact hfr) (Room.shown hr hcw hcu) (guards_under_guard hcg hg) ds _ _ _ _ s G H _ hT al (by simpa using rv) (Nat.le_refl _) (gd.cons w o (by show _ < dpIs ds + 1;omega) (by omega)) (by omega) I hrep fun s' H' G' I' p=>?_)
    refine wpAny_bind (wpAny_mkStr (wpAny_pure ?_) (by simpa [tupleText,hlen] using hsz0))
    have h1:=hR { s' with toks:=s'.toks + 1 } H' G' s'.toks (I'.tok _) p
    simpa [tupleText,hlen] using h1
theorem FpAt {X:Cx} {pins:List (Addr × Obj)} {H H':Hp} {c:Addr} (f:FpOk X pins H c) (n:H' c=none):FpOk X pins H' c:=⟨n,f.2⟩
theorem aiD {ds:List D} (hT:∀ d∈ds,RI X k C P rp d) {A:Around} {g:List Code} {pins:List (Addr × Obj)} {σ:L2.St} {so:So} {a Pa:Addr} {R:Result->Shared->Prop} {base:Nat}
    (hfr:A.frames=X.A.frames) (hr:Room (k + dpIs ds + 1) A) (hg:A.guards=some g) (o:okI C P (.lst ds)) (hsz:base + (listText (txIs rp ds)).length<=sizeLine) :
    ∀ (j i:Nat) (s:Shared) (G H:Hp) (acc:Array Value) (c:Nat) (done:List (Str × Tok)),ds.length - i=j->i<=ds.length->GdOk X C P G g (dpIs ds + 1)->DOk X.K G (.ref a) (.lst ds)->Inv X (pins++[(Pa,seqObj "list" acc c)]) σ H s->FpOk X pins H Pa->HRep X.K G so H->
      acc.toList=strValues done->done.map (·.1)=(txIs rp ds).take i->(∀ s' H' G' u,Inv X pins σ H' s'->PostH X.K G so H H' G'->R (.ok (.ret (.str (listText (txIs rp ds)) u))) s')->
      codeAny (model X.prog X.w) A (.builtin "list.__repr__.loop" ⟨[.ref a,rawInt i,.ref Pa,rawInt ((base + piled ((txIs rp ds).take i):Nat):Int)],[]⟩) R s:=by
  have hL:=textFrom_len (txIs rp ds) 0 "["
  have hX:(listText (txIs rp ds)).length=(textFrom 0 "[" (txIs rp ds)).length + 1:=by
    show (textFrom 0 "[" (txIs rp ds)++"]").length=_
    rw [strLen_append];rfl
  have hl0:=afZ rp ds
  have hsz1:ds.length<=sizeLine:=by
    have h1:=hL.1
    rw [if_neg (Nat.lt_irrefl 0)] at h1
    omega
  have hsz2:∀ t∈txIs rp ds,t.length<=sizeLine:=fun t ht=>by
    have h2:=hL.2.1 t ht
    omega
  have hsz3:(listText (txIs rp ds)).length<=sizeLine:=by omega
  have hp3:=piled_le_listText (txIs rp ds)
  have ncell:∀ (xs:Array Value) (n:Nat) v,(seqObj "list" xs n).data≠.cell v:=fun _ _ _ z=>by cases z
  intro j
  induction j with
  | zero=>
    intro i s G H acc c done hj hi gd w I fk hrep hacc hdone hR
    have hin:i=ds.length:=by omega
    have w':=w
    cases w' with
    | lst g0 al=>
      have nk:=I.pin (Pa,seqObj "list" acc c) (by simp)
      have I0:Inv X pins σ H s:=I.unpinned
      obtain ⟨its,rv,⟨ob,n,ha,hc,_,hd⟩,_⟩:=I0.list (SqL.of (hrep.ex _ _ g0))
      have hli:its.length=ds.length:=by rw [<- rv.length,al.length]
      refine codeAny_builtin PySem.F.entry_list_repr_loop ?_
      show wpAny _ _ (Builtin.«list.__repr__.loop» ⟨[.ref a,.int i 0,.ref Pa,.int ((base + piled ((txIs rp ds).take i):Nat):Int) 0],[]⟩) _ _ s
      rw [repr_loop_tree]
      refine wpAny_bind (wpAny_listItems ha hd ?_)
      have hnone:its.toArray[(i:Int).toNat]?=none:=by simp [hin,hli]
      simp only [hnone]
      unfold reprEnd
      refine wpAny_bind (wpAny_listItems nk.1 rfl ?_)
      rw [hacc,repr_fold]
      refine wpAny_bind (wpAny_pure ?_)
      have hall:done.map (·.1)=txIs rp ds:=by rw [hdone,hin,<- hl0,List.take_length]
      rw [hall]
      refine wpAny_bind (wpAny_mkStr (wpAny_pure ?_) hsz3)
      exact hR _ H G _ (I0.tok _) (.refl hrep)
  | succ j ih=>
    intro i s G H acc c done hj hi gd w I fk hrep hacc hdone hR
    have hlt:i < ds.length:=by omega
    have w':=w
    cases w' with
    | lst g0 al=>
      have nk:=I.pin (Pa,seqObj "list" acc c) (by simp)
      have I0:Inv X pins σ H s:=I.unpinned
      obtain ⟨its,rv,⟨ob,n,ha,hc,_,hd⟩,_⟩:=I0.list (SqL.of (hrep.ex _ _ g0))
      have hli:its.length=ds.length:=by rw [<- rv.length,al.length]
      obtain ⟨d,ed⟩:∃ d,ds[i]?=some d:=⟨_,List.getElem?_eq_getElem hlt⟩
      have md:d∈ds:=List.mem_of_getElem? ed
      have et:=ahR rp ed
      obtain ⟨v,ev,dv⟩:=al.get ed
      obtain ⟨u,eu,ru⟩:=rv.get ev
      have hp1:=piled_take_succ et
      have hp2:=piled_take_le (txIs rp ds) (i + 1)
      have dl:=ajT md
      refine codeAny_builtin PySem.F.entry_list_repr_loop ?_
      show wpAny _ _ (Builtin.«list.__repr__.loop» ⟨[.ref a,.int i 0,.ref Pa,.int ((base + piled ((txIs rp ds).take i):Nat):Int) 0],[]⟩) _ _ s
      rw [repr_loop_tree]
      refine wpAny_bind (wpAny_listItems ha hd ?_)
      have hsome:its.toArray[(i:Int).toNat]?=some u:=by simpa using eu
      simp only [hsome]
      rw [Int.toNat_natCast]
      refine wpAny_bind (wpAny_holding (hT d md (base + piled ((txIs rp ds).take i) + 1) _ _ (pins++[(Pa,seqObj "list" acc c)]) σ G H so s v u _ _ (by omega) (by rw [ad6 (by rfl)];exact hfr) ((Room.shown hr (amx _) (units_under_list_loop _ _)).mono (by omega)) (guards_under_guard (isGuard_list_loop _) hg)
        (gd.cons w o (by show _ < dpIs ds + 1;omega) (by omega)) I hrep dv ru fun s1 H1 G1 I1 p1=>?_))
      refine wpAny_bind (wpAny_mkStr ?_ (hsz2 _ (List.mem_of_getElem? et)))
      refine wpAny_bind ?_
      show wpAny _ _ (updateSeq Pa _) _ _ _
      have hasz:acc.size<=sizeLine:=by
        have e1:acc.toList.length=acc.size:=by simp
        have e2:(strValues done).length=done.length:=by simp [strValues]
        have e3:done.length=((txIs rp ds).take i).length:=by rw [<- hdone,List.length_map]
        have e4:((txIs rp ds).take i).length<=i:=by rw [List.length_take];omega
        rw [hacc] at e1;omega
      have nk1:=I1.pin (Pa,seqObj "list" acc c) (by simp)
      have I1u:Inv X pins σ H1 s1:=I1.unpinned
      have fk1:FpOk X pins H1 Pa:=FpAt fk nk1.2.1
      refine wpAny_updateSeq nk1.1 rfl (wpAny_pure ⟨PySem.F.quiet_list_repr_loop _,?_⟩) hasz
      obtain ⟨c2,hc2⟩:∃ c2,(s1.heap.update Pa (Obj.mapSeq (·.push (.str (txI rp d) s1.toks)))).get? Pa=some (seqObj "list" (acc.push (.str (txI rp d) s1.toks)) c2):=⟨_,get?_update_seq nk1.1 (·.push (.str (txI rp d) s1.toks))⟩
      have sb:=Heap.SameBut.update s1.heap Pa (Obj.mapSeq (·.push (.str (txI rp d) s1.toks)))
      have e1:((i:Int) + 1)=((i + 1:Nat):Int):=by omega
      have e2:base + piled ((txIs rp ds).take i) + ((txI rp d).length + 2)=base + piled ((txIs rp ds).take (i + 1)):=by omega
      rw [e1,e2]
      refine ih (i + 1) _ G1 H1 (acc.push (.str (txI rp d) s1.toks)) c2 (done++[(txI rp d,s1.toks)]) (by omega) hlt (gd.mono p1.ex (Nat.le_refl _)) (w.mono p1.ex) (repin (I1u.turned (t':=s1.toks + 1) (fun b o hb q=>(sb.2 b hb).trans q) fk1.1 fk1.2.1 fk1.2.2.2.1 fk1.2.2.2.2.1 fk1.2.2.2.2.2) fun q hq=>?_) fk1 p1.hrep (by simp [hacc,strValues]) (by simp [List.take_add_one,et,hdone]) fun s2 H2 G2 u2 I2 p2=>hR s2 H2 G2 u2 I2 (p1.trans p2)
      rw [List.mem_singleton.mp hq]
      exact ⟨hc2,fk1,ncell _ _⟩
theorem afI {ds:List D} (hT:∀ d∈ds,RI X k C P rp d) {A:Around} {g:List Code} {pins:List (Addr × Obj)} {σ:L2.St} {so:So} {s:Shared} {G H:Hp} {a:Addr} {R:Result->Shared->Prop} {base:Nat}
    (hsz:base + (listText (txIs rp ds)).length<=sizeLine) (hfr:A.frames=X.A.frames) (hr:Room (k + dpIs ds + 1) A) (hg:A.guards=some g) (gd:GdOk X C P G g (dpIs ds + 1)) (I:Inv X pins σ H s) (hrep:HRep X.K G so H) (w:DOk X.K G (.ref a) (.lst ds)) (o:okI C P (.lst ds))
    (hR:∀ s' H' G' u,Inv X pins σ H' s'->PostH X.K G so H H' G'->R (.ok (.ret (.str (listText (txIs rp ds)) u))) s') :
    wpAny (model X.prog X.w) A.in1 (Builtin.listReprAt base ⟨[.ref a],[]⟩) (fun fin s'=>match fin with | .done f=>R (.ok f) s' | .again c'=>c'.quiet=true/\codeAny (model X.prog X.w) A c' R s') (fun e s'=>R (.error e) s') s:=by
  have hca:Clear g a:=gd.clear I hrep.ex w o (Nat.le_refl _)
  have w':=w
  cases w' with
  | lst g0 al=>
    obtain ⟨its,rv,⟨ob,n,ha,hc,_,hd⟩,_⟩:=I.list (SqL.of (hrep.ex _ _ g0))
    have hli:its.length=ds.length:=by rw [<- rv.length,al.length]
    cases its with
    | nil=>
      have e:ds=[]:=List.length_eq_zero_iff.mp hli.symm
      subst e
      refine wpAny_list_repr_empty ha hd ?_
      have h1:=hR { s with toks:=s.toks + 1 } H G s.toks (I.tok _) (.refl hrep)
      have e2:listText (txIs rp [])=("[]":Str):=listText_nil
      rw [e2] at h1
      exact h1
    | cons x l=>
      refine wpAny_list_repr_head (A:=A.in1) hg (fun v rest kw hm=>listSameRef_of_ne (hca _ _ _ _ hm)) ha hd ?_
      refine wpAny_bind (m:=newList []) (wpAny_newObj_type ?_)
      refine wpAny_pure ⟨PySem.F.quiet_list_repr_loop _,?_⟩
      have I1:Inv X pins σ H { s with heap:=s.heap.push (seqObj "list" #[] 0) }:=I.kept (t':=s.toks) fun b o q=>Heap.get?_push_of_some _ q
      have fk:FpOk X pins H s.heap.objs.size:=I.fpOk (Nat.le_refl _) (I.hok.fresh (Nat.le_refl _))
      have h:=aiD (P:=P) hT (Pa:=s.heap.objs.size) (a:=a) (pins:=pins) (σ:=σ) (so:=so) (R:=R) hfr hr hg o hsz ds.length 0 { s with heap:=s.heap.push (seqObj "list" #[] 0) } G H #[] 0 [] (Nat.sub_zero _) (Nat.zero_le _) gd w
        (repin I1 fun q hq=>by rw [List.mem_singleton.mp hq];exact ⟨Heap.get?_push_size _ rfl,fk,fun _ z=>by cases z⟩) fk hrep rfl (by simp) hR
      have e0:base + piled ((txIs rp ds).take 0)=base:=by simp [piled]
      rw [e0] at h
      exact h
end
section
variable {X:Cx} {k:Nat} {C f:Addr} {fd:FuncData} {ps:List Str} {sp:SpD} {P:List (Str × D)->Prop} {rp:List (Str × D)->Str}
mutual
theorem amN (hm:Meth X.K C "__repr__" f) (Fz:FnZ X.prog X.w X.K X.mg X.base k f fd ps sp) (hb:Binds X.K fd ps []) (hP:∀ fs,P fs->sp [.d (.ins C fs)] (fun v=>v=.d (.str (rp fs))) fun _ _=>False):∀ d:D,okI C P d->RI X k C P rp d
  | .non,_=>fun base A g pins σ G H so s v u E Q hbs hfr hr hg gd I hrep w ru hQ=>by
    cases w;cases ru
    exact ReprIs.none base hbs A E s Q fun tk=>hQ _ H G (I.tok tk) (.refl hrep)
  | .bl b,_=>fun base A g pins σ G H so s v u E Q hbs hfr hr hg gd I hrep w ru hQ=>by
    cases w;cases ru
    exact ReprIs.bool b base hbs A E s Q fun tk=>hQ _ H G (I.tok tk) (.refl hrep)
  | .int i,o=>fun base A g pins σ G H so s v u E Q hbs hfr hr hg gd I hrep w ru hQ=>by
    cases w
    obtain ⟨t,rfl⟩:=ru
    exact ReprIs.int t o base hbs A E s Q fun tk=>hQ _ H G (I.tok tk) (.refl hrep)
  | .str x,_=>fun base A g pins σ G H so s v u E Q hbs hfr hr hg gd I hrep w ru hQ=>by
    cases w
    obtain ⟨t,rfl⟩:=ru
    have hbs':base + (reprText x).length<=sizeLine:=hbs
    exact ReprIs.str x t (by omega) base hbs A E s Q fun tk=>hQ _ H G (I.tok tk) (.refl hrep)
  | .lst ds,o=>fun base A g pins σ G H so s v u E Q hbs hfr hr hg gd I hrep w ru hQ=>by
    have hT:=aeQ hm Fz hb hP ds o
    have hbs':base + (listText (txIs rp ds)).length<=sizeLine:=hbs
    obtain ⟨a,rfl⟩:∃ a,v=.ref a:=by cases w;exact ⟨_,rfl⟩
    obtain rfl:u=.ref a:=ru
    obtain ⟨vs,g0,al⟩:∃ vs,G a=some (.lst vs)/\DAll X.K G vs ds:=by cases w with | lst g0 al=>exact ⟨_,g0,al⟩
    obtain ⟨its,rv,⟨ob,n,ha,hc,_,hd⟩,_⟩:=I.list (SqL.of (hrep.ex _ _ g0))
    have hTy:s.TypeIs (.ref a) "list":=⟨ob,ha,hc⟩
    exact wpAny_pyReprUnder_ref (by omega) (wpAny_pyReprObjUnder_twin (twin:="list.__repr__.under") hTy PySem.F.slot_list_repr.toG rfl hr.units0 (call_twin_plain PySem.F.plain_list_repr_under PySem.F.entry_list_repr_under PySem.F.check_list_repr_under hTy PySem.F.slot_list_repr.toG (PySem.F.args_list_repr_1 _)
      (afI (R:=callEnd _ E) hT hbs' hfr hr hg gd I hrep w o fun s' H' G' u I' p=>⟨⟨_,_,rfl⟩,_,_,rfl,hQ _ _ _ I' p⟩)))
  | .tup ds,o=>fun base A g pins σ G H so s v u E Q hbs hfr hr hg gd I hrep w ru hQ=>by
    have hT:=aeQ hm Fz hb hP ds o
    have hbs':base + (tupleText (txIs rp ds)).length<=sizeLine:=hbs
    obtain ⟨a,rfl⟩:∃ a,v=.ref a:=by cases w;exact ⟨_,rfl⟩
    obtain rfl:u=.ref a:=ru
    obtain ⟨vs,g0,al⟩:∃ vs,SqT X.K G a vs/\DAll X.K G vs ds:=by cases w with | tup g0 al=>exact ⟨_,g0,al⟩
    obtain ⟨its,rv,⟨ob,ha,hc,n,hd⟩,_⟩:=I.tuple (ex_t hrep.ex g0)
    have hTy:s.TypeIs (.ref a) "tuple":=⟨ob,ha,hc⟩
    exact wpAny_pyReprUnder_ref (by omega) (wpAny_pyReprObjUnder_twin (twin:="tuple.__repr__.under") hTy PySem.F.slot_tuple_repr rfl hr.units0 (call_twin_own (PySem.F.quiet_tuple_repr_under _) PySem.F.entry_tuple_repr_under PySem.F.check_tuple_repr_under hTy PySem.F.slot_tuple_repr (PySem.F.args_tuple_repr_1 _)
      (agE (R:=callEnd _ E) hT (isGuard_tuple_repr_under _) (units_under_tuple_repr_under _ _) rfl (amw _) hbs' hfr hr hg gd I hrep w o fun s' H' G' u I' p=>⟨⟨_,_,rfl⟩,_,_,rfl,hQ _ _ _ I' p⟩)))
  | .ins D fs,o=>by
    obtain ⟨rfl,p⟩:=o
    exact amM hm Fz hb (hP fs p)
  | .dk _,o=>o.elim
  | .dt _,o=>o.elim
  | .any,o=>o.elim
  | .raw _,o=>o.elim
  | .kt _,o=>o.elim
theorem aeQ (hm:Meth X.K C "__repr__" f) (Fz:FnZ X.prog X.w X.K X.mg X.base k f fd ps sp) (hb:Binds X.K fd ps []) (hP:∀ fs,P fs->sp [.d (.ins C fs)] (fun v=>v=.d (.str (rp fs))) fun _ _=>False):∀ ds:List D,okIs C P ds->∀ d∈ds,RI X k C P rp d
  | [],_,_,h=>by cases h
  | e::r,o,d,h=>by
    rcases List.mem_cons.mp h with z | h
    · rw [z];exact amN hm Fz hb hP e o.1
    · exact aeQ hm Fz hb hP r o.2 d h
end
def rReprT (K:PySem.W.Frag) (C:Addr) (W:List (Str × D)->Str->Prop):List V->Hp->VK->Prop:=fun xs H Q=>∃ (rp:List (Str × D)->Str) (G:Hp) (so:So) (v:V) (d:D),xs=[v]/\HRep K G so H/\DOk K G v d/\okI C (fun fs=>W fs (rp fs)) d/\((∃ ds,d=.lst ds)\/∃ ds,d=.tup ds)/\(txI rp d).length<=sizeLine/\dpI d<=8/\
  ∀ H' G',PostH K G so H H' G'->Q (.str (txI rp d)) H'
theorem afO {W:List (Str × D)->Str->Prop} (hm:Meth X.K C "__repr__" f) (Fz:FnZ X.prog X.w X.K X.mg X.base k f fd ps sp) (hb:Binds X.K fd ps []) (hP:∀ fs z,W fs z->sp [.d (.ins C fs)] (fun v=>v=.d (.str z)) fun _ _=>False) (hr:Room (k + 9) X.A) (hg:X.A.guards=some []) :
    CallR X (.builtin "repr") (rReprT X.K C W):=by
  intro pins s σ H xs us Q I r h
  obtain ⟨rp,G,so,v,d,rfl,hrep,w,o,sh,hz,h8,q⟩:=h
  obtain ⟨u,rfl,ru⟩:=vals1 r
  have h0:X.A.units + 1 < cLine:=by have:=hr.un;omega
  have hr1:Room (k + 8) X.A.in1:=hr.in1
  rcases sh with ⟨ds,rfl⟩ | ⟨ds,rfl⟩
  · have hT:=aeQ (P:=fun fs=>W fs (rp fs)) hm Fz hb (fun fs p=>hP fs _ p) ds o
    have hbs':0 + (listText (txIs rp ds)).length<=sizeLine:=by rw [Nat.zero_add];exact hz
    have h8':dpIs ds + 1<=8:=h8
    obtain ⟨a,rfl⟩:∃ a,v=.ref a:=by cases w;exact ⟨_,rfl⟩
    obtain rfl:u=.ref a:=ru
    obtain ⟨vs,g0,al⟩:∃ vs,G a=some (.lst vs)/\DAll X.K G vs ds:=by cases w with | lst g0 al=>exact ⟨_,g0,al⟩
    obtain ⟨its,rv,⟨ob,n,ha,hc,_,hd⟩,_⟩:=I.list (SqL.of (hrep.ex _ _ g0))
    have hTy:s.TypeIs (.ref a) "list":=⟨ob,ha,hc⟩
    refine call_repr_slot h0 hTy PySem.F.slot_list_repr.toG (wpAny_call (codeAny_call_builtin PySem.F.slot_list_repr.plain PySem.F.entry_list_repr (PySem.F.slot_list_repr.check _ _ _ _ _ _ _ _ hTy (PySem.F.args_list_repr_1 _)
      (afI (base:=0) (A:=X.A.in1) (R:=callEnd _ X.xe) hT hbs' rfl (hr1.mono (by omega)) hg GdOk.nil I hrep w o fun s' H' G' u I' p=>?_))))
    exact ⟨_,_,rfl,.str _,H',I',⟨_,rfl⟩,q H' G' p⟩
  · have hT:=aeQ (P:=fun fs=>W fs (rp fs)) hm Fz hb (fun fs p=>hP fs _ p) ds o
    have hbs':0 + (tupleText (txIs rp ds)).length<=sizeLine:=by rw [Nat.zero_add];exact hz
    have h8':dpIs ds + 1<=8:=h8
    obtain ⟨a,rfl⟩:∃ a,v=.ref a:=by cases w;exact ⟨_,rfl⟩
    obtain rfl:u=.ref a:=ru
    obtain ⟨vs,g0,al⟩:∃ vs,SqT X.K G a vs/\DAll X.K G vs ds:=by cases w with | tup g0 al=>exact ⟨_,g0,al⟩
    obtain ⟨its,rv,⟨ob,ha,hc,n,hd⟩,_⟩:=I.tuple (ex_t hrep.ex g0)
    have hTy:s.TypeIs (.ref a) "tuple":=⟨ob,ha,hc⟩
    refine call_repr_slot h0 hTy PySem.F.slot_tuple_repr (wpAny_call (codeAny_call_builtin_own (Code.quiet_builtin _ (by decide +kernel)) PySem.F.entry_tuple_repr (PySem.F.slot_tuple_repr.check _ _ _ _ _ _ _ _ hTy (PySem.F.args_tuple_repr_1 _)
      (agE (base:=0) (A:=X.A.in1) (R:=callEnd _ X.xe) hT (isGuard_tuple_repr _) (units_under_tuple_repr _ _) rfl (w_tup _) hbs' rfl (hr1.mono (by omega)) hg GdOk.nil I hrep w o fun s' H' G' u I' p=>?_))))
    exact ⟨_,_,rfl,.str _,H',I',⟨_,rfl⟩,q H' G' p⟩
end
@[irreducible] def reprT (C:Addr) (W:List (Str × D)->Str->Prop):List DV->(DV->Prop)->Prop
  | [.d d],Q=>∃ rp:List (Str × D)->Str,okI C (fun fs=>W fs (rp fs)) d/\((∃ ds,d=.lst ds)\/∃ ds,d=.tup ds)/\(txI rp d).length<=szl/\dpI d<=8/\Q (.d (.str (txI rp d)))
  | _,_=>False
theorem agI {K:PySem.W.Frag} {C:Addr} {W:List (Str × D)->Str->Prop}:CallSem K (rReprT K C W) (reprT C W):=by
  intro G so H xs dxs Q R h w q hk
  unfold reprT at q
  split at q
  · rename_i d
    obtain ⟨v,rfl,w1⟩:∃ v,xs=[v]/\VOk K G so H v (.d d):=by
      cases w with
      | cons w1 _ t=>cases t;exact ⟨_,rfl,w1⟩
    obtain ⟨rp,o,sh,hz,h8,q⟩:=q
    exact ⟨rp,G,so,v,d,rfl,h,w1,o,sh,by rw [<- aci];exact hz,h8,fun H' G' p=>hk _ H' G' (.d (.str (txI rp d))) ⟨p.ex,p.hrep,p.keep,p.frm,DOk.str _,fun _ _ e=>(nomatch e),fun _ e=>(nomatch e)⟩ q⟩
  · exact q.elim
theorem ajB {C:Addr} {W:List (Str × D)->Str->Prop} {d:D} {Q:DV->Prop} (rp:List (Str × D)->Str) (o:okI C (fun fs=>W fs (rp fs)) d) (sh:(∃ ds,d=.lst ds)\/∃ ds,d=.tup ds) (hz:(txI rp d).length<=szl) (h8:dpI d<=8) (q:Q (.d (.str (txI rp d)))):reprT C W [.d d] Q:=by
  unfold reprT
  exact ⟨rp,o,sh,hz,h8,q⟩
section
variable {g:TDG} {tt:TDT} {te:TD} {vs:List Nat} {Q:List (List D)->DSt->Prop}
theorem alT {α:Type} (h:α->D) (f:α->List D) (S:DSt) {xs:List α} (hl:xs.length<=szl)
    (step:∀ x∈xs,∀ (M:List D->DSt->Prop) (A:DSt->Prop),M (f x) S->g (h x) S fun s1=>tt s1 (fun b s2=>Br b (te s2 (fun x s3=>match x with
      | .own (.lst es)=>M es (wipeD s3 vs)
      | _=>False) fun _ _ _=>False) (A (wipeD s2 vs))) fun _ _ _=>False) (q:Q (xs.map f) S):dLcR g tt te vs Q (xs.map h) [] S:=by
  have go:∀ (dn r:List α),dn++r=xs->dLcR g tt te vs Q (r.map h) (dn.map f) S:=by
    intro dn r
    induction r generalizing dn with
    | nil=>intro e;rw [List.append_nil] at e;subst e;show dLcR g tt te vs Q [] _ S;rw [lcR_nil];exact q
    | cons x r ih=>
      intro e
      show dLcR g tt te vs Q (h x::r.map h) _ S
      rw [ah3]
      have ld:dn.length + (r.length + 1)=xs.length:=by rw [<- e];simp
      refine step x (by rw [<- e];simp) (fun es s=>(dn.map f).length < szl/\dLcR g tt te vs Q (r.map h) (dn.map f++[es]) s) (fun s=>dLcR g tt te vs Q (r.map h) (dn.map f) s) ⟨by rw [List.length_map];omega,?_⟩
      have:=ih (dn++[x]) (by rw [<- e];simp)
      rw [List.map_append] at this
      exact this
  exact go [] xs rfl
end
def rOr (r1 r2:List V->Hp->VK->Prop):List V->Hp->VK->Prop:=fun xs H Q=>r1 xs H Q\/r2 xs H Q
def tOr (t1 t2:List DV->(DV->Prop)->Prop):List DV->(DV->Prop)->Prop:=fun xs Q=>t1 xs Q\/t2 xs Q
theorem aj1 {X:Cx} {f:Value} {r1 r2:List V->Hp->VK->Prop} (h1:CallR X f r1) (h2:CallR X f r2):CallR X f (rOr r1 r2):=fun pins s σ H xs us Q I r h=>h.elim (h1 pins s σ H xs us Q I r) (h2 pins s σ H xs us Q I r)
theorem akS {K:PySem.W.Frag} {r1 r2:List V->Hp->VK->Prop} {t1 t2:List DV->(DV->Prop)->Prop} (h1:CallSem K r1 t1) (h2:CallSem K r2 t2):CallSem K (rOr r1 r2) (tOr t1 t2):=fun G so H xs dxs Q R h w q k=>q.imp (fun q=>h1 G so H xs dxs Q R h w q k) fun q=>h2 G so H xs dxs Q R h w q k
end DL
namespace K14
open PySem PySem.Spec PyProof.Rows L2 DL
structure Tx (P:Program) (K:PySem.W.Frag) (mg:Str->Option Value) (base:Heap) (a:Nat->Addr) (d:Nat->FuncData):Prop where
  tb:∀ q∈lamFns K,LamX.TabB base mg q.1 q.2.1
  F_is_whole:FunD K "is_whole" "is_whole" (defArgs ab1) (defBody ab1) (defScope ab1) [] [] (a aaI) (d aaI)
  m_is_whole:mg "is_whole"=some (.ref (a aaI))
  F_is_number:FunD K "is_number" "is_number" (defArgs abK) (defBody abK) (defScope abK) [] [] (a abz) (d abz)
  m_is_number:mg "is_number"=some (.ref (a abz))
  F_is_ratio:FunD K "is_ratio" "is_ratio" (defArgs ab2) (defBody ab2) (defScope ab2) [] [] (a abn) (d abn)
  m_is_ratio:mg "is_ratio"=some (.ref (a abn))
  F_is_valued:FunD K "is_valued" "is_valued" (defArgs abJ) (defBody abJ) (defScope abJ) [] [] (a abx) (d abx)
  m_is_valued:mg "is_valued"=some (.ref (a abx))
  F_lowest:FunD K "lowest" "lowest" (defArgs acP) (defBody acP) (defScope acP) [] [] (a acD) (d acD)
  m_lowest:mg "lowest"=some (.ref (a acD))
  F_ratio_of:FunD K "ratio_of" "ratio_of" (defArgs ab0) (defBody ab0) (defScope ab0) [] [] (a abm) (d abm)
  m_ratio_of:mg "ratio_of"=some (.ref (a abm))
  F_plus:FunD K "plus" "plus" (defArgs aeP) (defBody aeP) (defScope aeP) [] [] (a aee) (d aee)
  m_plus:mg "plus"=some (.ref (a aee))
  F_below:FunD K "below" "below" (defArgs adC) (defBody adC) (defScope adC) [] [] (a adf) (d adf)
  m_below:mg "below"=some (.ref (a adf))
  F_is_name:FunD K "is_name" "is_name" (defArgs ab9) (defBody ab9) (defScope ab9) [] [] (a acb) (d acb)
  m_is_name:mg "is_name"=some (.ref (a acb))
  F_is_square:FunD K "is_square" "is_square" (defArgs abt) (defBody abt) (defScope abt) [] [] (a aby) (d aby)
  m_is_square:mg "is_square"=some (.ref (a aby))
  F_first_fault:FunD K "first_fault" "first_fault" (defArgs aaP) (defBody aaP) (defScope aaP) [] [] (a aaZ) (d aaZ)
  m_first_fault:mg "first_fault"=some (.ref (a aaZ))
  F_checked_table:FunD K "checked_table" "checked_table" (defArgs aaF) (defBody aaF) (defScope aaF) [] [] (a aaG) (d aaG)
  m_checked_table:mg "checked_table"=some (.ref (a aaG))
  F_checked_places:FunD K "checked_places" "checked_places" (defArgs aay) (defBody aay) (defScope aay) [] [] (a aaz) (d aaz)
  m_checked_places:mg "checked_places"=some (.ref (a aaz))
  F_World___init__:FunD K "__init__" "World.__init__" (defArgs aaK) (defBody aaK) (defScope aaK) [] [("cart",.non)] (a aas) (d aas)
  mk_World:Mk K (He.ga K "World") (a aas)
  F_World_size:FunD K "size" "World.size" (defArgs abv) (defBody abv) (defScope abv) [] [] (a aaA) (d aaA)
  pr_World_size:PropOf K (He.ga K "World") "size" (He.ma K (He.ga K "World") "size") (a aaA)
  F_World_layers:FunD K "layers" "World.layers" (defArgs aa4) (defBody aa4) (defScope aa4) [] [] (a aaR) (d aaR)
  pr_World_layers:PropOf K (He.ga K "World") "layers" (He.ma K (He.ga K "World") "layers") (a aaR)
  F_World_names:FunD K "names" "World.names" (defArgs abk) (defBody abk) (defScope abk) [] [] (a aa2) (d aa2)
  me_World_names:Meth K (He.ga K "World") "names" (a aa2)
  F_names_text:FunD K "names_text" "names_text" (defArgs abr) (defBody abr) (defScope abr) [] [] (a aba) (d aba)
  m_names_text:mg "names_text"=some (.ref (a aba))
  F_World___repr__:FunD K "__repr__" "World.__repr__" (defArgs aaJ) (defBody aaJ) (defScope aaJ) [] [] (a aaW) (d aaW)
  me_World___repr__:Meth K (He.ga K "World") "__repr__" (a aaW)
  F__law_source:FunD K "_law_source" "_law_source" (defArgs abg) (defBody abg) (defScope abg) [] [] (a abD) (d abD)
  m__law_source:mg "_law_source"=some (.ref (a abD))
  F__law_draw:FunD K "_law_draw" "_law_draw" (defArgs abj) (defBody abj) (defScope abj) [] [] (a aau) (d aau)
  m__law_draw:mg "_law_draw"=some (.ref (a aau))
  F__law_of:FunD K "_law_of" "_law_of" (defArgs acr) (defBody acr) (defScope acr) [] [] (a acd) (d acd)
  m__law_of:mg "_law_of"=some (.ref (a acd))
  F__law_same:FunD K "_law_same" "_law_same" (defArgs abL) (defBody abL) (defScope abL) [] [] (a abA) (d abA)
  m__law_same:mg "_law_same"=some (.ref (a abA))
  F__law_fields:FunD K "_law_fields" "_law_fields" (defArgs abi) (defBody abi) (defScope abi) [] [] (a abE) (d abE)
  m__law_fields:mg "_law_fields"=some (.ref (a abE))
  F__law_ask:FunD K "_law_ask" "_law_ask" (defArgs s__law_ask) (defBody s__law_ask) (defScope s__law_ask) [] [] (a aa8) (d aa8)
  m__law_ask:mg "_law_ask"=some (.ref (a aa8))
  F__law_low:FunD K "_law_low" "_law_low" (defArgs ab3) (defBody ab3) (defScope ab3) [] [] (a abo) (d abo)
  m__law_low:mg "_law_low"=some (.ref (a abo))
  F__law_plus:FunD K "_law_plus" "_law_plus" (defArgs abM) (defBody abM) (defScope abM) [] [] (a aaL) (d aaL)
  m__law_plus:mg "_law_plus"=some (.ref (a aaL))
  F__law_less:FunD K "_law_less" "_law_less" (defArgs abN) (defBody abN) (defScope abN) [] [] (a aa5) (d aa5)
  m__law_less:mg "_law_less"=some (.ref (a aa5))
  F__law_least:FunD K "_law_least" "_law_least" (defArgs abu) (defBody abu) (defScope abu) [] [] (a abc) (d abc)
  m__law_least:mg "_law_least"=some (.ref (a abc))
  F__law_length:FunD K "_law_length" "_law_length" (defArgs abh) (defBody abh) (defScope abh) [] [] (a aa0) (d aa0)
  m__law_length:mg "_law_length"=some (.ref (a aa0))
  F__law_bare:FunD K "_law_bare" "_law_bare" (defArgs abO) (defBody abO) (defScope abO) [] [] (a abB) (d abB)
  m__law_bare:mg "_law_bare"=some (.ref (a abB))
  F__law_closed:FunD K "_law_closed" "_law_closed" (defArgs aaX) (defBody aaX) (defScope aaX) [] [] (a aa1) (d aa1)
  m__law_closed:mg "_law_closed"=some (.ref (a aa1))
  F__law_table:FunD K "_law_table" "_law_table" (defArgs aa9) (defBody aa9) (defScope aa9) [] [] (a abb) (d abb)
  m__law_table:mg "_law_table"=some (.ref (a abb))
  F__law_first_wrong:FunD K "_law_first_wrong" "_law_first_wrong" (defArgs aap) (defBody aap) (defScope aap) [] [] (a aaq) (d aaq)
  m__law_first_wrong:mg "_law_first_wrong"=some (.ref (a aaq))
  F_law:FunD K "law" "law" (defArgs adB) (defBody adB) (defScope adB) [] [] (a agn) (d agn)
  m_World:mg "World"=some (.ref (He.ga K "World"))
  cl_World:Cls K (He.ga K "World")
  na_World_own_tables:NoAttr K (He.ga K "World") "own_tables"
  na_World_own_names:NoAttr K (He.ga K "World") "own_names"
  x_InvalidRatio:XCls P K mg (He.ga K "InvalidRatio") ["given"] abU
  xe_InvalidRatio:ErrC K (csA K) (He.ga K "InvalidRatio")
  x_InvalidTable:XCls P K mg (He.ga K "InvalidTable") ["layer"] abT
  xe_InvalidTable:ErrC K (csA K) (He.ga K "InvalidTable")
  x_InvalidWay:XCls P K mg (He.ga K "InvalidWay") ["layer","start","goal"] ack
  xe_InvalidWay:ErrC K (csA K) (He.ga K "InvalidWay")
  x_TooMany:XCls P K mg (He.ga K "TooMany") ["subject","most"] adi
  xe_TooMany:ErrC K (csA K) (He.ga K "TooMany")
  x_InvalidName:XCls P K mg (He.ga K "InvalidName") ["given"] ab5
  xe_InvalidName:ErrC K (csA K) (He.ga K "InvalidName")
  x_InvalidPlace:XCls P K mg (He.ga K "InvalidPlace") ["given"] abV
  xe_InvalidPlace:ErrC K (csA K) (He.ga K "InvalidPlace")
  m_InvalidRatio:mg "InvalidRatio"=some (.ref (He.ga K "InvalidRatio"))
  m_InvalidTable:mg "InvalidTable"=some (.ref (He.ga K "InvalidTable"))
  m_InvalidWay:mg "InvalidWay"=some (.ref (He.ga K "InvalidWay"))
  m_TooMany:mg "TooMany"=some (.ref (He.ga K "TooMany"))
  m_InvalidName:mg "InvalidName"=some (.ref (He.ga K "InvalidName"))
  m_InvalidPlace:mg "InvalidPlace"=some (.ref (He.ga K "InvalidPlace"))
  m_MilesError:mg "MilesError"=some (.ref (He.ga K "MilesError"))
  m_Missing:mg "Missing"=some (.ref (He.ga K "Missing"))
  m_NothingLeft:mg "NothingLeft"=some (.ref (He.ga K "NothingLeft"))
  n_abs:mg "abs"=none
  n_all:mg "all"=none
  n_any:mg "any"=none
  n_bool:mg "bool"=none
  n_int:mg "int"=none
  n_isinstance:mg "isinstance"=none
  n_len:mg "len"=none
  n_list:mg "list"=none
  n_range:mg "range"=none
  n_repr:mg "repr"=none
  n_sorted:mg "sorted"=none
  n_str:mg "str"=none
  n_super:mg "super"=none
  n_tuple:mg "tuple"=none
  b_gcd:mg "gcd"=some (.builtin "math.gcd")
  c_ZERO:GlobD K mg "ZERO" (.tup [.int 0,.int 1])
  c_LETTERS:GlobD K mg "LETTERS" (.str "abcdefghijklmnopqrstuvwxyz")
  c_MOST_NAMED:GlobD K mg "MOST_NAMED" (.int 5)
  c_MOST_PLACES:GlobD K mg "MOST_PLACES" (.int 9)
theorem ail (ns:List Int) (lo hi:Option Int):cutV (ns.map V.int) lo hi=(cut ns lo hi).map V.int:=by
  unfold cutV cut
  rw [List.length_map,List.map_take,List.map_drop]
theorem ahg {α:Type} {xs:List α} {n:Int} (h0:0<=n) (h1:n < (xs.length:Int)):∃ x,atI xs n=some x/\x∈xs:=by
  have hj:n.toNat < xs.length:=by omega
  refine ⟨xs[n.toNat],?_,List.getElem_mem hj⟩
  unfold atI ixN
  rw [if_pos h0,if_pos h1]
  exact List.getElem?_eq_getElem hj
theorem ac6 {n:Nat} (h:n<=szl):(n:Int) < 2 ^ 64:=by
  have:szl=16777216:=rfl
  omega
section
variable {P:Program} {w:World} {K:PySem.W.Frag} {mg:Str->Option Value} {base:Heap} {a:Nat->Addr} {d:Nat->FuncData}
abbrev age:List Str:=["_law_script","_law_seed","_law_cell"]
theorem ab6:FnScope age ["_law_script"] (defScope abg):=⟨rfl,rfl,rfl,by decide +kernel,rfl,by decide +kernel,by decide +kernel⟩
theorem afq (T:Tx P K mg base a d):FnR P w K mg base 1 (a abD) (d abD) ["_law_script"] (spSource K):=by
  refine ajN T.F__law_source ab6 (fun vs H Q E h=>?_) (fun cdv A outer s H vs Q E hr hg h=>?_)
  · obtain ⟨c,ns,rfl,_⟩:=h;rfl
  · obtain ⟨c,ns,rfl,hS,hlen,q⟩:=h
    refine ⟨_,pss_cons (ps_set (i:=1) ab6.nd rfl (.inl rfl) pe_int)
      (pss_cons (ps_for (passes_of rfl) rfl (pi_list (pe_slice sl_list (pv 0) po_none (po_some pe_int))) (pg_name (i:=2) ab6.nd rfl (.inl rfl))
        (pss_one (ps_set (i:=1) ab6.nd rfl (.inl rfl) (pe_op op_mod (pe_callTy call_int1 (by rfl) T.n_int (by decide +kernel) (pa_cons (pe_op op_add (pe_op op_add (pe_op op_mul (pv 1) pe_int) (pe_op op_mod (pe_callTy call_int1 (by rfl) T.n_int (by decide +kernel) (pa_cons (pv 2) pa_nil)) pe_int)) pe_int) pa_nil)) pe_int))))
      (pss_one (ps_ret (pe_lst (pa_cons (pe_callTy call_list_of (by rfl) T.n_list (by decide +kernel) (pa_cons (pe_slice sl_list (pv 0) po_none (po_some pe_int)) pa_nil)) (pa_cons pe_int (pa_cons pe_int (pa_cons (pv 1) (pa_cons pe_int pa_nil))))))))),?_⟩
    refine ⟨.ref c,rfl,63,rfl,c,ns.map V.int,rfl,hS,fun l nl=>⟨l,rfl,⟨_,SqL.of upd_same⟩,?_⟩⟩
    refine for_list (K:=K) (a:=l) (xs:=cutV (ns.map V.int) none (some 63)) (fun i σ H2=>∃ sd v,σ=[some (.ref c),some (.int sd),v]/\Ex H H2/\H2 l=some (.lst (cutV (ns.map V.int) none (some 63)))/\0<=sd/\sd < 4294967296) ⟨10040,none,rfl,Ex.new nl,upd_same,by decide,by decide⟩ (fun i σ H2 _ ⟨_,_,_,_,e,_⟩=>SqL.of e) ?_ ?_
    · rintro i y σ H2 hi ⟨sd,v,rfl,ex,el,h0,h1⟩
      obtain ⟨z,rfl⟩:∃ z,y=V.int z:=by
        rw [ail,List.getElem?_map] at hi
        cases e:(cut ns none (some 63))[i]? with
        | none=>rw [e] at hi;cases hi
        | some z=>rw [e] at hi;exact ⟨z,(Option.some.inj hi).symm⟩
      refine ⟨_,rfl,_,_,rfl,rfl,.inr ⟨by decide,by decide⟩,_,rfl,.inl ⟨z,rfl,_,_,rfl,rfl,(by show (0:Int) < 2147483353;decide),_,_,rfl,rfl,_,_,rfl,rfl,.inl ⟨_,rfl,_,_,rfl,rfl,(by show (0:Int) < 2147483587;decide),?_⟩⟩⟩
      refine ⟨_,_,rfl,ex,el,Int.emod_nonneg _ (by decide),Int.lt_trans (Int.emod_lt_of_pos _ (by decide)) (by decide)⟩
    · rintro σ H2 ⟨sd,v,rfl,ex,el,h0,h1⟩
      refine ⟨.ref c,rfl,63,rfl,c,ns.map V.int,rfl,ex_l ex hS,fun l2 n2=>⟨l2,_,rfl,.inl (SqL.of upd_same),fun l3 n3=>?_⟩⟩
      refine ⟨.int sd,rfl,by show 5<=sizeLine;decide,fun p np=>?_⟩
      have n23:H2 l3=none:=(Ex.new (o:=.lst (cutV (ns.map V.int) none (some 63))) n2).free n3
      have e3:Ex H2 (upd (upd (upd H2 l2 (.lst (cutV (ns.map V.int) none (some 63)))) l3 (.lst (cutV (ns.map V.int) none (some 63)))) p (.lst [.ref l3,.int 0,.int 0,.int sd,.int 0])):=(Ex.new n2).trans ((Ex.new n3).trans (Ex.new np))
      have ne:l3≠p:=fun e=>by subst e;rw [upd_same] at np;cases np
      refine q _ p l3 (cut ns none (some 63)) sd (ex.trans e3) ne upd_same (by rw [upd_ne ne,upd_same,ail]) ?_ h0 h1
      exact Nat.le_trans (by unfold cut;rw [List.length_take,List.length_drop];omega) hlen
abbrev n__law_draw:List Str:=["_law_src","_law_many","_law_cell","_law_digit","_law_root","_law_grown"]
theorem ab8:FnScope n__law_draw ["_law_src","_law_many"] (defScope abj):=⟨rfl,rfl,rfl,by decide +kernel,rfl,by decide +kernel,by decide +kernel⟩
def SrcAt (p:Addr) (H H2:Hp) (c:Addr) (i r sd n:Int):Prop:=(∀ b,b≠p->H2 b=H b)/\H2 p=some (.lst [.ref c,.int i,.int r,.int sd,.int n])/\0<=i/\0<=r/\0<=sd/\sd < 4294967296
theorem aiP {m:Int} (h0:0 < m) (h:m < 2 ^ 64):m.natAbs.log2 < 9000:=by
  have:m.natAbs.log2 < 64:=(Nat.log2_lt (by omega)).mpr (by omega)
  omega
theorem ah1 {x m:Int} (h0:0 < m) (h:m<=4294967296):(-(2 ^ 64) < x % m/\x % m < 2 ^ 64)/\0<=x % m/\x % m < m:=by
  have h1:=Int.emod_nonneg x (show m≠0 by omega)
  have h2:=Int.emod_lt_of_pos x h0
  exact ⟨⟨by omega,by omega⟩,h1,h2⟩
theorem acA (T:Tx P K mg base a d):FnG P w K mg base 1 (a aau) (d aau) ["_law_src","_law_many"] spDraw:=by
  refine FnR.g (ajN T.F__law_draw ab8 (fun vs H Q E h=>?_) (fun cdv A outer s H vs Q E hr hg h=>?_)) (fun args Q E h=>?_)
  · obtain ⟨G,so,as,QD,ED,_,w1,⟨m,rfl,_⟩,_⟩:=h
    exact w1.length
  · obtain ⟨G,so,as,QD,ED,hrep,w1,⟨m,rfl,hm0,hm1,hq⟩,hQ,_⟩:=h
    obtain ⟨v1,v2,rfl,⟨p,⟨c,hps⟩,rfl⟩,wm,_⟩:=w1.v2
    cases wm
    obtain ⟨gp,ms,i0,r0,sd0,n0,hp,hc,hms,hi0,hr0,hs0,hs1⟩:SrcOk K G H p c:=hrep.vol p (.src c) hps
    have fin:∀ (H2:Hp) (i r sd n k:Int),SrcAt p H H2 c i r sd n->0<=k->k < m->Q (.int k) H2:=fun H2 i r sd n k ⟨e1,e2,e3,e4,e5,e6⟩ k0 k1=>by
      refine hQ (.int k) H2 G (.d (.int k)) ⟨Ex.refl G,⟨fun b o e=>?_,fun b kd e=>?_,hrep.ok,fun b xs e=>?_⟩,fun b o e sb=>?_,fun _ _ g _=>g,.int k,fun _ _ z=>(nomatch z),fun _ z=>(nomatch z)⟩ (hq k k0 k1)
      · rw [e1 b (fun z=>by subst z;rw [gp] at e;cases e)];exact hrep.ex b o e
      · by_cases z:b=p
        · subst z
          obtain rfl:=hrep.ok.uq _ _ _ e hps
          exact ⟨gp,ms,i,r,sd,n,e2,hc,hms,e3,e4,e5,e6⟩
        · exact (hrep.vol b kd e).keep (Ex.refl G) (hrep.vol b kd e).g (e1 b z)
      · by_cases z:b=p
        · subst z;rw [e2] at e;cases e
        · rw [e1 b z] at e;exact hrep.tp b xs e
      · rw [e1 b (fun z=>by subst z;obtain ⟨_,q⟩:=sb (.src c) hps;cases q)];exact e
    have cells:∀ {H2:Hp},(∀ b,b≠p->H2 b=H b)->SqL K H2 c (ms.map V.int):=fun {H2} e1=>ex_l (fun b o e=>by
      rw [e1 b (fun z=>by subst z;rw [gp] at e;cases e)];exact hrep.ex b o e) hc
    obtain ⟨t2,pt2,key⟩:∃ t2,PSs (cxOf (L2N.CX P w) P w K mg base n__law_draw "_law_draw" (defScope abj) (a aau) cdv A outer s H E) ((defBody abj).drop 1) t2/\
        ∀ (H2:Hp) (i r sd n:Int) (y:Option V),SrcAt p H H2 c i r sd n->t2 { nx:=fun _ H'=>Q .non H',rt:=Q } [some (.ref p),some (.int m),y,none,none,none] H2:=by
      refine ⟨_,pss_cons (ps_if (pt_cmpR op_ge (pe_ix ix_list (pv 0) pe_int (fun _ _=>rfl)) (pv 1) (nomark _))
          (pss_cons (ps_set (i:=3) ab8.nd rfl (.inl rfl) (pe_op op_mod (pe_callTy call_int1 (by rfl) T.n_int (by decide +kernel) (pa_cons (pe_ix ix_list (pv 0) pe_int (fun _ _=>rfl)) pa_nil)) (pv 1)))
          (pss_cons (ps_asg (pe_op op_fdivW (pe_ix ix_list (pv 0) pe_int (fun _ _=>rfl)) (pv 1)) (pg_sub (pv 0) pe_int set_list))
          (pss_one (ps_ret (pv 3))))) pss_nil)
        (pss_cons (ps_asg (pe_op op_add (pe_ix ix_list (pv 0) pe_int (fun _ _=>rfl)) pe_int) (pg_sub (pv 0) pe_int set_list))
        (pss_cons (ps_set (i:=4) ab8.nd rfl (.inl rfl) (pe_op op_mod (pe_callTy call_int1 (by rfl) T.n_int (by decide +kernel) (pa_cons (pe_op op_add (pe_ix ix_list (pv 0) pe_int (fun _ _=>rfl)) (pe_op op_mul (pe_ix ix_list (pv 0) pe_int (fun _ _=>rfl)) pe_int)) pa_nil)) pe_int))
        (pss_cons (ps_set (i:=5) ab8.nd rfl (.inl rfl) (pe_op op_mul (pe_op op_mod (pe_callTy call_int1 (by rfl) T.n_int (by decide +kernel) (pa_cons (pe_op op_mul (pv 4) (pv 4)) pa_nil)) pe_int) (pe_op op_add (pe_op op_mod (pe_callTy call_int1 (by rfl) T.n_int (by decide +kernel) (pa_cons (pv 4) pa_nil)) pe_int) pe_int)))
        (pss_cons (ps_asg (pe_op op_mod (pe_callTy call_int1 (by rfl) T.n_int (by decide +kernel) (pa_cons (pe_op op_add (pe_op op_add (pv 5) (pe_op op_mul pe_int (pv 4))) pe_int) pa_nil)) pe_int) (pg_sub (pv 0) pe_int set_list))
        (pss_one (ps_ret (pe_op op_mod (pe_callTy call_int1 (by rfl) T.n_int (by decide +kernel) (pa_cons (pe_op op_add (pe_op op_fdiv (pe_ix ix_list (pv 0) pe_int (fun _ _=>rfl)) pe_int) (pe_op op_mul (pe_op op_mod (pe_callTy call_int1 (by rfl) T.n_int (by decide +kernel) (pa_cons (pe_ix ix_list (pv 0) pe_int (fun _ _=>rfl)) pa_nil)) pe_int) pe_int)) pa_nil)) (pv 1)))))))),?_⟩
      rintro H2 i r sd n y ⟨e1,e2,e3,e4,e5,e6⟩
      have e2L:SqL K H2 p [.ref c,.int i,.int r,.int sd,.int n]:=SqL.of e2
      refine ⟨.ref p,rfl,p,_,2,.int r,rfl,rfl,e2L,rfl,.int m,rfl,r,m,rfl,rfl,_,rfl,ite2 (fun h=>?_) (fun h=>?_)⟩
      · have hrm:m<=r:=of_decide_eq_true h
        refine ⟨.ref p,rfl,p,_,2,.int r,rfl,rfl,e2L,rfl,.inl ⟨r,rfl,.int m,rfl,r,m,rfl,rfl,hm0,?_⟩⟩
        refine ⟨.ref p,rfl,p,_,2,.int r,rfl,rfl,e2L,rfl,.int m,rfl,r,m,rfl,rfl,⟨hm0,aiP hm0 hm1⟩,.ref p,rfl,p,_,2,2,rfl,rfl,e2,rfl,?_⟩
        refine ⟨.int (r % m),rfl,?_⟩
        refine fin _ i (r / m) sd n (r % m) ⟨fun b hb=>by rw [upd_ne hb];exact e1 b hb,upd_same,e3,Int.ediv_nonneg e4 (by omega),e5,e6⟩ (Int.emod_nonneg _ (by omega)) (Int.emod_lt_of_pos _ hm0)
      · refine ⟨.ref p,rfl,p,_,4,.int n,rfl,rfl,e2L,rfl,n,1,rfl,rfl,.ref p,rfl,p,_,4,4,rfl,rfl,e2,rfl,?_⟩
        have e3L:SqL K (upd H2 p (.lst ([V.ref c,.int i,.int r,.int sd,.int n].set 4 (.int (n + 1))))) p [.ref c,.int i,.int r,.int sd,.int (n + 1)]:=SqL.of upd_same
        refine ⟨.ref p,rfl,p,_,3,.int sd,rfl,rfl,e3L,rfl,.ref p,rfl,p,_,4,.int (n + 1),rfl,rfl,e3L,rfl,n + 1,9431,rfl,rfl,.inr ⟨by decide,by decide⟩,sd,_,rfl,rfl,.inl ⟨_,rfl,_,2147483629,rfl,rfl,(by show (0:Int) < 2147483629;decide),?_⟩⟩
        obtain ⟨q1,q2,q3⟩:=ah1 (x:=sd + (n + 1) * 9431) (m:=2147483629) (by decide) (by decide)
        refine ⟨_,rfl,_,rfl,_,_,rfl,rfl,.inl q1,.inl ⟨_,rfl,_,2147483399,rfl,rfl,(by show (0:Int) < 2147483399;decide),_,rfl,.inl ⟨_,rfl,_,39989,rfl,rfl,(by show (0:Int) < 39989;decide),_,9,rfl,rfl,_,_,rfl,rfl,.inl (ah1 (by decide) (by decide)).1,?_⟩⟩⟩
        refine ⟨_,rfl,_,rfl,29989,_,rfl,rfl,.inl ⟨by decide,by decide⟩,_,_,rfl,rfl,_,991,rfl,rfl,.inl ⟨_,rfl,_,2147483549,rfl,rfl,(by show (0:Int) < 2147483549;decide),.ref p,rfl,p,_,3,3,rfl,rfl,upd_same,rfl,?_⟩⟩
        generalize hg2:((sd + (n + 1) * 9431) % 2147483629 * ((sd + (n + 1) * 9431) % 2147483629) % 2147483399 * ((sd + (n + 1) * 9431) % 2147483629 % 39989 + 9) + 29989 * ((sd + (n + 1) * 9431) % 2147483629) + 991) % 2147483549=sd2
        have s2:0<=sd2:=by rw [<- hg2];exact Int.emod_nonneg _ (by decide)
        have s3:sd2 < 4294967296:=by rw [<- hg2];exact Int.lt_trans (Int.emod_lt_of_pos _ (by decide)) (by decide)
        dsimp only
        rw [hg2,upd_upd]
        have e4L:SqL K (upd H2 p (.lst (([V.ref c,.int i,.int r,.int sd,.int n].set 4 (.int (n + 1))).set 3 (.int sd2)))) p [.ref c,.int i,.int r,.int sd2,.int (n + 1)]:=SqL.of upd_same
        refine ⟨.ref p,rfl,p,_,3,.int sd2,rfl,rfl,e4L,rfl,sd2,73,rfl,rfl,⟨by decide,by decide⟩,.ref p,rfl,p,_,3,.int sd2,rfl,rfl,e4L,rfl,.inl ⟨sd2,rfl,sd2,8521,rfl,rfl,(by show (0:Int) < 8521;decide),_,57,rfl,rfl,.inr ⟨by decide,by decide⟩,_,_,rfl,rfl,.inl ⟨_,rfl,.int m,rfl,_,m,rfl,rfl,hm0,?_⟩⟩⟩
        exact fin _ i r sd2 (n + 1) _ ⟨fun b hb=>by rw [upd_ne hb];exact e1 b hb,upd_same,e3,e4,s2,s3⟩ (Int.emod_nonneg _ (by omega)) (Int.emod_lt_of_pos _ hm0)
    refine ⟨_,pss_cons (ps_if (PW.pt (pw_and (pt_cmpR op_lt (pe_ix ix_list (pv 0) pe_int (fun _ _=>rfl)) (pv 1) (nomark _)) (pw_and1 (pt_cmpR op_lt (pe_ix ix_list (pv 0) pe_int (fun _ _=>rfl)) (pe_callB call_len_seq (by rfl) T.n_len PySem.boot_len (pa_cons (pe_ix ix_list (pv 0) pe_int (fun _ _=>rfl)) pa_nil)) (nomark _)))))
        (pss_cons (ps_set (i:=2) ab8.nd rfl (.inl rfl) (pe_ix ix_list (pe_ix ix_list (pv 0) pe_int (fun _ _=>rfl)) (pe_ix ix_list (pv 0) pe_int (fun _ _=>rfl)) (fun _ _=>rfl)))
        (pss_cons (ps_asg (pe_op op_add (pe_ix ix_list (pv 0) pe_int (fun _ _=>rfl)) pe_int) (pg_sub (pv 0) pe_int set_list))
        (pss_cons (ps_asg (pe_op op_mod (pe_callTy call_int1 (by rfl) T.n_int (by decide +kernel) (pa_cons (pe_op op_add (pe_op op_add (pe_op op_mul (pe_ix ix_list (pv 0) pe_int (fun _ _=>rfl)) pe_int) (pe_op op_mod (pe_callTy call_int1 (by rfl) T.n_int (by decide +kernel) (pa_cons (pv 2) pa_nil)) pe_int)) pe_int) pa_nil)) pe_int) (pg_sub (pv 0) pe_int set_list))
        (pss_one (ps_asg (pe_ifExp (pt_cmpR op_ge (pv 2) (pe_op op_pow pe_int pe_int) (nomark _)) (pv 2) pe_int) (pg_sub (pv 0) pe_int set_list)))))) pss_nil) pt2,?_⟩
    have hpL:SqL K H p [.ref c,.int i0,.int r0,.int sd0,.int n0]:=SqL.of hp
    have S0:SrcAt p H H c i0 r0 sd0 n0:=⟨fun _ _=>rfl,hp,hi0,hr0,hs0,hs1⟩
    refine ⟨.ref p,rfl,p,_,2,.int r0,rfl,rfl,hpL,rfl,.int m,rfl,r0,m,rfl,rfl,_,rfl,ite2 (fun h=>?_) (fun h=>?_)⟩
    · refine ⟨.ref p,rfl,p,_,1,.int i0,rfl,rfl,hpL,rfl,.ref p,rfl,p,_,0,.ref c,rfl,rfl,hpL,rfl,c,ms.map V.int,rfl,.inl (cells fun _ _=>rfl),i0,_,rfl,rfl,_,rfl,ite2 (fun h2=>?_) (fun h2=>?_)⟩
      · have hlt:i0 < ((ms.map V.int).length:Int):=of_decide_eq_true h2
        rw [List.length_map] at hlt
        have hj:i0.toNat < ms.length:=by omega
        have atc:atI (ms.map V.int) i0=some (.int ms[i0.toNat]):=at_of (j:=i0.toNat) (by omega) (by rw [List.getElem?_map,List.getElem?_eq_getElem hj];rfl)
        generalize ms[i0.toNat]=z at atc
        refine ⟨.ref p,rfl,p,_,0,.ref c,rfl,rfl,hpL,rfl,.ref p,rfl,p,_,1,.int i0,rfl,rfl,hpL,rfl,c,_,i0,.int z,rfl,rfl,cells (fun _ _=>rfl),atc,?_⟩
        refine ⟨.ref p,rfl,p,_,1,.int i0,rfl,rfl,hpL,rfl,i0,1,rfl,rfl,.ref p,rfl,p,_,1,1,rfl,rfl,hp,rfl,?_⟩
        have e3L:SqL K (upd H p (.lst ([V.ref c,.int i0,.int r0,.int sd0,.int n0].set 1 (.int (i0 + 1))))) p [.ref c,.int (i0 + 1),.int r0,.int sd0,.int n0]:=SqL.of upd_same
        refine ⟨.ref p,rfl,p,_,3,.int sd0,rfl,rfl,e3L,rfl,sd0,46757,rfl,rfl,.inr ⟨by decide,by decide⟩,.int z,rfl,.inl ⟨z,rfl,z,2147483323,rfl,rfl,(by show (0:Int) < 2147483323;decide),_,_,rfl,rfl,_,31,rfl,rfl,.inl ⟨_,rfl,_,2147483549,rfl,rfl,(by show (0:Int) < 2147483549;decide),.ref p,rfl,p,_,3,3,rfl,rfl,upd_same,rfl,?_⟩⟩⟩
        generalize hg2:(sd0 * 46757 + z % 2147483323 + 31) % 2147483549=sd2
        have s2:0<=sd2:=by rw [<- hg2];exact Int.emod_nonneg _ (by decide)
        have s3:sd2 < 4294967296:=by rw [<- hg2];exact Int.lt_trans (Int.emod_lt_of_pos _ (by decide)) (by decide)
        dsimp only
        rw [hg2,upd_upd]
        refine ⟨.int z,rfl,10,18,rfl,rfl,⟨by decide,by decide,by decide⟩,z,_,rfl,rfl,_,rfl,ite2 (fun h3=>?_) (fun h3=>?_)⟩
        · have hz:(10:Int) ^ (18:Int).toNat<=z:=of_decide_eq_true h3
          refine ⟨.int z,rfl,.ref p,rfl,p,_,2,2,rfl,rfl,upd_same,rfl,?_⟩
          rw [upd_upd]
          exact key _ (i0 + 1) z sd2 n0 (some (.int z)) ⟨fun b hb=>upd_ne hb,upd_same,by omega,Int.le_trans (by decide) hz,s2,s3⟩
        · refine ⟨.ref p,rfl,p,_,2,2,rfl,rfl,upd_same,rfl,?_⟩
          rw [upd_upd]
          exact key _ (i0 + 1) 0 sd2 n0 (some (.int z)) ⟨fun b hb=>upd_ne hb,upd_same,by omega,by decide,s2,s3⟩
      · exact key H i0 r0 sd0 n0 none S0
    · refine iteF ?_
      exact key H i0 r0 sd0 n0 none S0
  · obtain ⟨m,rfl,_⟩:=h;rfl
theorem abZ (T:Tx P K mg base a d):Bd K (d aas) ["self","names","foot","cart"] 3 [] [.pos 0,.pos 1,.pos 2,.dfl (.non) (.non)]:=
  anq T.F_World___init__ [("cart",.non)] (by simp) (by simp) (fun us mv ws=>match us,mv,ws with | [u0,u1,u2],[m0],[]=>[u0,u1,u2,m0] | _,_,_=>[])
    (fun {vs mz zs us mv ws} r1 r2 r3=>by
    rcases r1 with _ | ⟨a0,r1⟩<;>(try rcases r1 with _ | ⟨a1,r1⟩)<;>(try rcases r1 with _ | ⟨a2,r1⟩)<;>(try rcases r1 with _ | ⟨a3,r1⟩)<;>(try rcases r1 with _ | ⟨a4,r1⟩)<;>rcases r2 with _ | ⟨b0,r2⟩<;>(try rcases r2 with _ | ⟨b1,r2⟩)<;>(try rcases r2 with _ | ⟨b2,r2⟩)<;>rcases r3 with _ | ⟨c0,r3⟩<;>(try rcases r3 with _ | ⟨c1,r3⟩)<;>(try rcases r3 with _ | ⟨c2,r3⟩)<;>(try rcases r3 with _ | ⟨c3,r3⟩)<;>first | exact .nil | (repeat (first | exact .nil | refine .cons (by assumption) ?_)))
    (fun _ _ _ _ _ _ us mv ws h1 h2 h3=>match us,mv,ws,h1,h2,h3 with | [_,_,_],[_],[],_,_,_=>⟨_,_,_,_,_,_,rfl,rfl,rfl⟩)
    (fun vs qs h1 h2=>match vs,qs,h1,h2 with | [_,_,_],[],_,_=>rfl) (fun s h v d e=>by subst e;simp at h;first | (obtain ⟨rfl,rfl⟩:=h;intro G;(first | exact .int _ | exact .bl _ | exact .str _ | exact .non);done) | (rcases h with ⟨rfl,rfl⟩ | ⟨rfl,rfl⟩<;>intro G<;>first | exact .int _ | exact .bl _ | exact .str _ | exact .non))
theorem aao (T:Tx P K mg base a d):Bd K (d aas) ["self","names","foot","cart"] 3 ["cart"] [.pos 0,.pos 1,.pos 2,.kw 0]:=
  anq T.F_World___init__ [] (by simp) (by simp) (fun us mv ws=>match us,mv,ws with | [u0,u1,u2],[],[w0]=>[u0,u1,u2,w0] | _,_,_=>[])
    (fun {vs mz zs us mv ws} r1 r2 r3=>by
    rcases r1 with _ | ⟨a0,r1⟩<;>(try rcases r1 with _ | ⟨a1,r1⟩)<;>(try rcases r1 with _ | ⟨a2,r1⟩)<;>(try rcases r1 with _ | ⟨a3,r1⟩)<;>(try rcases r1 with _ | ⟨a4,r1⟩)<;>rcases r2 with _ | ⟨b0,r2⟩<;>(try rcases r2 with _ | ⟨b1,r2⟩)<;>(try rcases r2 with _ | ⟨b2,r2⟩)<;>rcases r3 with _ | ⟨c0,r3⟩<;>(try rcases r3 with _ | ⟨c1,r3⟩)<;>(try rcases r3 with _ | ⟨c2,r3⟩)<;>(try rcases r3 with _ | ⟨c3,r3⟩)<;>first | exact .nil | (repeat (first | exact .nil | refine .cons (by assumption) ?_)))
    (fun _ _ _ _ _ _ us mv ws h1 h2 h3=>match us,mv,ws,h1,h2,h3 with | [_,_,_],[],[_],_,_,_=>rfl)
    (fun vs qs h1 h2=>match vs,qs,h1,h2 with | [_,_,_],[_],_,_=>rfl) (fun s h v d e=>by subst e;simp at h)
theorem afh (T:Tx P K mg base a d):Bd K (d aa2) ["self"] 1 [] [.pos 0]:=
  ab4 T.F_World_names (fun us ws=>match us,ws with | [u0],[]=>[u0] | _,_=>[])
    (fun _ _ _ _ _ _ us ws h1 h2=>match us,ws,h1,h2 with | [_],[],_,_=>rfl)
    (fun vs qs us ws h1 h2 r1 r2=>match vs,us,qs,ws,h1,h2,r1,r2 with | _,[_],_,[],_,_,.cons u0 .nil,.nil=>.cons u0 .nil) (fun s h v d e=>by subst e;simp at h)
theorem agB (T:Tx P K mg base a d):Bd K (d abB) ["_law_src","_law_one"] 2 [] [.pos 0,.pos 1]:=
  ab4 T.F__law_bare (fun us ws=>match us,ws with | [u0,u1],[]=>[u0,u1] | _,_=>[])
    (fun _ _ _ _ _ _ us ws h1 h2=>match us,ws,h1,h2 with | [_,_],[],_,_=>rfl)
    (fun vs qs us ws h1 h2 r1 r2=>match vs,us,qs,ws,h1,h2,r1,r2 with | _,[_,_],_,[],_,_,.cons u0 (.cons u1 .nil),.nil=>.cons u0 (.cons u1 .nil)) (fun s h v d e=>by subst e;simp at h)
theorem afg (T:Tx P K mg base a d):Bd K (d aa1) ["_law_rows"] 1 [] [.pos 0]:=
  ab4 T.F__law_closed (fun us ws=>match us,ws with | [u0],[]=>[u0] | _,_=>[])
    (fun _ _ _ _ _ _ us ws h1 h2=>match us,ws,h1,h2 with | [_],[],_,_=>rfl)
    (fun vs qs us ws h1 h2 r1 r2=>match vs,us,qs,ws,h1,h2,r1,r2 with | _,[_],_,[],_,_,.cons u0 .nil,.nil=>.cons u0 .nil) (fun s h v d e=>by subst e;simp at h)
theorem aaE (T:Tx P K mg base a d):Bd K (d aau) ["_law_src","_law_many"] 2 [] [.pos 0,.pos 1]:=
  ab4 T.F__law_draw (fun us ws=>match us,ws with | [u0,u1],[]=>[u0,u1] | _,_=>[])
    (fun _ _ _ _ _ _ us ws h1 h2=>match us,ws,h1,h2 with | [_,_],[],_,_=>rfl)
    (fun vs qs us ws h1 h2 r1 r2=>match vs,us,qs,ws,h1,h2,r1,r2 with | _,[_,_],_,[],_,_,.cons u0 (.cons u1 .nil),.nil=>.cons u0 (.cons u1 .nil)) (fun s h v d e=>by subst e;simp at h)
theorem ads (T:Tx P K mg base a d):Bd K (d aaq) ["_law_table_here"] 1 [] [.pos 0]:=
  ab4 T.F__law_first_wrong (fun us ws=>match us,ws with | [u0],[]=>[u0] | _,_=>[])
    (fun _ _ _ _ _ _ us ws h1 h2=>match us,ws,h1,h2 with | [_],[],_,_=>rfl)
    (fun vs qs us ws h1 h2 r1 r2=>match vs,us,qs,ws,h1,h2,r1,r2 with | _,[_],_,[],_,_,.cons u0 .nil,.nil=>.cons u0 .nil) (fun s h v d e=>by subst e;simp at h)
theorem afA (T:Tx P K mg base a d):Bd K (d abc) ["_law_pairs"] 1 [] [.pos 0]:=
  ab4 T.F__law_least (fun us ws=>match us,ws with | [u0],[]=>[u0] | _,_=>[])
    (fun _ _ _ _ _ _ us ws h1 h2=>match us,ws,h1,h2 with | [_],[],_,_=>rfl)
    (fun vs qs us ws h1 h2 r1 r2=>match vs,us,qs,ws,h1,h2,r1,r2 with | _,[_],_,[],_,_,.cons u0 .nil,.nil=>.cons u0 .nil) (fun s h v d e=>by subst e;simp at h)
theorem aff (T:Tx P K mg base a d):Bd K (d aa0) ["_law_src"] 1 [] [.pos 0]:=
  ab4 T.F__law_length (fun us ws=>match us,ws with | [u0],[]=>[u0] | _,_=>[])
    (fun _ _ _ _ _ _ us ws h1 h2=>match us,ws,h1,h2 with | [_],[],_,_=>rfl)
    (fun vs qs us ws h1 h2 r1 r2=>match vs,us,qs,ws,h1,h2,r1,r2 with | _,[_],_,[],_,_,.cons u0 .nil,.nil=>.cons u0 .nil) (fun s h v d e=>by subst e;simp at h)
theorem adT (T:Tx P K mg base a d):Bd K (d aa5) ["_law_one","_law_other"] 2 [] [.pos 0,.pos 1]:=
  ab4 T.F__law_less (fun us ws=>match us,ws with | [u0,u1],[]=>[u0,u1] | _,_=>[])
    (fun _ _ _ _ _ _ us ws h1 h2=>match us,ws,h1,h2 with | [_,_],[],_,_=>rfl)
    (fun vs qs us ws h1 h2 r1 r2=>match vs,us,qs,ws,h1,h2,r1,r2 with | _,[_,_],_,[],_,_,.cons u0 (.cons u1 .nil),.nil=>.cons u0 (.cons u1 .nil)) (fun s h v d e=>by subst e;simp at h)
theorem aej (T:Tx P K mg base a d):Bd K (d abo) ["_law_top","_law_bottom"] 2 [] [.pos 0,.pos 1]:=
  ab4 T.F__law_low (fun us ws=>match us,ws with | [u0,u1],[]=>[u0,u1] | _,_=>[])
    (fun _ _ _ _ _ _ us ws h1 h2=>match us,ws,h1,h2 with | [_,_],[],_,_=>rfl)
    (fun vs qs us ws h1 h2 r1 r2=>match vs,us,qs,ws,h1,h2,r1,r2 with | _,[_,_],_,[],_,_,.cons u0 (.cons u1 .nil),.nil=>.cons u0 (.cons u1 .nil)) (fun s h v d e=>by subst e;simp at h)
theorem acX (T:Tx P K mg base a d):Bd K (d acd) ["_law_src","_law_some"] 2 [] [.pos 0,.pos 1]:=
  ab4 T.F__law_of (fun us ws=>match us,ws with | [u0,u1],[]=>[u0,u1] | _,_=>[])
    (fun _ _ _ _ _ _ us ws h1 h2=>match us,ws,h1,h2 with | [_,_],[],_,_=>rfl)
    (fun vs qs us ws h1 h2 r1 r2=>match vs,us,qs,ws,h1,h2,r1,r2 with | _,[_,_],_,[],_,_,.cons u0 (.cons u1 .nil),.nil=>.cons u0 (.cons u1 .nil)) (fun s h v d e=>by subst e;simp at h)
theorem acW (T:Tx P K mg base a d):Bd K (d aaL) ["_law_one","_law_other"] 2 [] [.pos 0,.pos 1]:=
  ab4 T.F__law_plus (fun us ws=>match us,ws with | [u0,u1],[]=>[u0,u1] | _,_=>[])
    (fun _ _ _ _ _ _ us ws h1 h2=>match us,ws,h1,h2 with | [_,_],[],_,_=>rfl)
    (fun vs qs us ws h1 h2 r1 r2=>match vs,us,qs,ws,h1,h2,r1,r2 with | _,[_,_],_,[],_,_,.cons u0 (.cons u1 .nil),.nil=>.cons u0 (.cons u1 .nil)) (fun s h v d e=>by subst e;simp at h)
theorem acn (T:Tx P K mg base a d):Bd K (d abA) ["_law_found","_law_due"] 2 [] [.pos 0,.pos 1]:=
  ab4 T.F__law_same (fun us ws=>match us,ws with | [u0,u1],[]=>[u0,u1] | _,_=>[])
    (fun _ _ _ _ _ _ us ws h1 h2=>match us,ws,h1,h2 with | [_,_],[],_,_=>rfl)
    (fun vs qs us ws h1 h2 r1 r2=>match vs,us,qs,ws,h1,h2,r1,r2 with | _,[_,_],_,[],_,_,.cons u0 (.cons u1 .nil),.nil=>.cons u0 (.cons u1 .nil)) (fun s h v d e=>by subst e;simp at h)
theorem afz (T:Tx P K mg base a d):Bd K (d abb) ["_law_src","_law_size"] 2 [] [.pos 0,.pos 1]:=
  ab4 T.F__law_table (fun us ws=>match us,ws with | [u0,u1],[]=>[u0,u1] | _,_=>[])
    (fun _ _ _ _ _ _ us ws h1 h2=>match us,ws,h1,h2 with | [_,_],[],_,_=>rfl)
    (fun vs qs us ws h1 h2 r1 r2=>match vs,us,qs,ws,h1,h2,r1,r2 with | _,[_,_],_,[],_,_,.cons u0 (.cons u1 .nil),.nil=>.cons u0 (.cons u1 .nil)) (fun s h v d e=>by subst e;simp at h)
theorem aj3 (T:Tx P K mg base a d):Bd K (d adf) ["one","other"] 2 [] [.pos 0,.pos 1]:=
  ab4 T.F_below (fun us ws=>match us,ws with | [u0,u1],[]=>[u0,u1] | _,_=>[])
    (fun _ _ _ _ _ _ us ws h1 h2=>match us,ws,h1,h2 with | [_,_],[],_,_=>rfl)
    (fun vs qs us ws h1 h2 r1 r2=>match vs,us,qs,ws,h1,h2,r1,r2 with | _,[_,_],_,[],_,_,.cons u0 (.cons u1 .nil),.nil=>.cons u0 (.cons u1 .nil)) (fun s h v d e=>by subst e;simp at h)
theorem adS (T:Tx P K mg base a d):Bd K (d aaz) ["names","size"] 2 [] [.pos 0,.pos 1]:=
  ab4 T.F_checked_places (fun us ws=>match us,ws with | [u0,u1],[]=>[u0,u1] | _,_=>[])
    (fun _ _ _ _ _ _ us ws h1 h2=>match us,ws,h1,h2 with | [_,_],[],_,_=>rfl)
    (fun vs qs us ws h1 h2 r1 r2=>match vs,us,qs,ws,h1,h2,r1,r2 with | _,[_,_],_,[],_,_,.cons u0 (.cons u1 .nil),.nil=>.cons u0 (.cons u1 .nil)) (fun s h v d e=>by subst e;simp at h)
theorem acO (T:Tx P K mg base a d):Bd K (d aaG) ["layer","rows","size"] 3 [] [.pos 0,.pos 1,.pos 2]:=
  ab4 T.F_checked_table (fun us ws=>match us,ws with | [u0,u1,u2],[]=>[u0,u1,u2] | _,_=>[])
    (fun _ _ _ _ _ _ us ws h1 h2=>match us,ws,h1,h2 with | [_,_,_],[],_,_=>rfl)
    (fun vs qs us ws h1 h2 r1 r2=>match vs,us,qs,ws,h1,h2,r1,r2 with | _,[_,_,_],_,[],_,_,.cons u0 (.cons u1 (.cons u2 .nil)),.nil=>.cons u0 (.cons u1 (.cons u2 .nil))) (fun s h v d e=>by subst e;simp at h)
theorem afe (T:Tx P K mg base a d):Bd K (d aaZ) ["rows"] 1 [] [.pos 0]:=
  ab4 T.F_first_fault (fun us ws=>match us,ws with | [u0],[]=>[u0] | _,_=>[])
    (fun _ _ _ _ _ _ us ws h1 h2=>match us,ws,h1,h2 with | [_],[],_,_=>rfl)
    (fun vs qs us ws h1 h2 r1 r2=>match vs,us,qs,ws,h1,h2,r1,r2 with | _,[_],_,[],_,_,.cons u0 .nil,.nil=>.cons u0 .nil) (fun s h v d e=>by subst e;simp at h)
theorem ahM (T:Tx P K mg base a d):Bd K (d acb) ["value"] 1 [] [.pos 0]:=
  ab4 T.F_is_name (fun us ws=>match us,ws with | [u0],[]=>[u0] | _,_=>[])
    (fun _ _ _ _ _ _ us ws h1 h2=>match us,ws,h1,h2 with | [_],[],_,_=>rfl)
    (fun vs qs us ws h1 h2 r1 r2=>match vs,us,qs,ws,h1,h2,r1,r2 with | _,[_],_,[],_,_,.cons u0 .nil,.nil=>.cons u0 .nil) (fun s h v d e=>by subst e;simp at h)
theorem agA (T:Tx P K mg base a d):Bd K (d abz) ["value","least","most"] 3 [] [.pos 0,.pos 1,.pos 2]:=
  ab4 T.F_is_number (fun us ws=>match us,ws with | [u0,u1,u2],[]=>[u0,u1,u2] | _,_=>[])
    (fun _ _ _ _ _ _ us ws h1 h2=>match us,ws,h1,h2 with | [_,_,_],[],_,_=>rfl)
    (fun vs qs us ws h1 h2 r1 r2=>match vs,us,qs,ws,h1,h2,r1,r2 with | _,[_,_,_],_,[],_,_,.cons u0 (.cons u1 (.cons u2 .nil)),.nil=>.cons u0 (.cons u1 (.cons u2 .nil))) (fun s h v d e=>by subst e;simp at h)
theorem aei (T:Tx P K mg base a d):Bd K (d abn) ["value"] 1 [] [.pos 0]:=
  ab4 T.F_is_ratio (fun us ws=>match us,ws with | [u0],[]=>[u0] | _,_=>[])
    (fun _ _ _ _ _ _ us ws h1 h2=>match us,ws,h1,h2 with | [_],[],_,_=>rfl)
    (fun vs qs us ws h1 h2 r1 r2=>match vs,us,qs,ws,h1,h2,r1,r2 with | _,[_],_,[],_,_,.cons u0 .nil,.nil=>.cons u0 .nil) (fun s h v d e=>by subst e;simp at h)
theorem agz (T:Tx P K mg base a d):Bd K (d aby) ["value"] 1 [] [.pos 0]:=
  ab4 T.F_is_square (fun us ws=>match us,ws with | [u0],[]=>[u0] | _,_=>[])
    (fun _ _ _ _ _ _ us ws h1 h2=>match us,ws,h1,h2 with | [_],[],_,_=>rfl)
    (fun vs qs us ws h1 h2 r1 r2=>match vs,us,qs,ws,h1,h2,r1,r2 with | _,[_],_,[],_,_,.cons u0 .nil,.nil=>.cons u0 .nil) (fun s h v d e=>by subst e;simp at h)
theorem agy (T:Tx P K mg base a d):Bd K (d abx) ["value"] 1 [] [.pos 0]:=
  ab4 T.F_is_valued (fun us ws=>match us,ws with | [u0],[]=>[u0] | _,_=>[])
    (fun _ _ _ _ _ _ us ws h1 h2=>match us,ws,h1,h2 with | [_],[],_,_=>rfl)
    (fun vs qs us ws h1 h2 r1 r2=>match vs,us,qs,ws,h1,h2,r1,r2 with | _,[_],_,[],_,_,.cons u0 .nil,.nil=>.cons u0 .nil) (fun s h v d e=>by subst e;simp at h)
theorem acg (T:Tx P K mg base a d):Bd K (d aaI) ["value"] 1 [] [.pos 0]:=
  ab4 T.F_is_whole (fun us ws=>match us,ws with | [u0],[]=>[u0] | _,_=>[])
    (fun _ _ _ _ _ _ us ws h1 h2=>match us,ws,h1,h2 with | [_],[],_,_=>rfl)
    (fun vs qs us ws h1 h2 r1 r2=>match vs,us,qs,ws,h1,h2,r1,r2 with | _,[_],_,[],_,_,.cons u0 .nil,.nil=>.cons u0 .nil) (fun s h v d e=>by subst e;simp at h)
theorem afQ (T:Tx P K mg base a d):Bd K (d acD) ["top","bottom"] 2 [] [.pos 0,.pos 1]:=
  ab4 T.F_lowest (fun us ws=>match us,ws with | [u0,u1],[]=>[u0,u1] | _,_=>[])
    (fun _ _ _ _ _ _ us ws h1 h2=>match us,ws,h1,h2 with | [_,_],[],_,_=>rfl)
    (fun vs qs us ws h1 h2 r1 r2=>match vs,us,qs,ws,h1,h2,r1,r2 with | _,[_,_],_,[],_,_,.cons u0 (.cons u1 .nil),.nil=>.cons u0 (.cons u1 .nil)) (fun s h v d e=>by subst e;simp at h)
theorem afy (T:Tx P K mg base a d):Bd K (d aba) ["names"] 1 [] [.pos 0]:=
  ab4 T.F_names_text (fun us ws=>match us,ws with | [u0],[]=>[u0] | _,_=>[])
    (fun _ _ _ _ _ _ us ws h1 h2=>match us,ws,h1,h2 with | [_],[],_,_=>rfl)
    (fun vs qs us ws h1 h2 r1 r2=>match vs,us,qs,ws,h1,h2,r1,r2 with | _,[_],_,[],_,_,.cons u0 .nil,.nil=>.cons u0 .nil) (fun s h v d e=>by subst e;simp at h)
theorem akN (T:Tx P K mg base a d):Bd K (d aee) ["one","other"] 2 [] [.pos 0,.pos 1]:=
  ab4 T.F_plus (fun us ws=>match us,ws with | [u0,u1],[]=>[u0,u1] | _,_=>[])
    (fun _ _ _ _ _ _ us ws h1 h2=>match us,ws,h1,h2 with | [_,_],[],_,_=>rfl)
    (fun vs qs us ws h1 h2 r1 r2=>match vs,us,qs,ws,h1,h2,r1,r2 with | _,[_,_],_,[],_,_,.cons u0 (.cons u1 .nil),.nil=>.cons u0 (.cons u1 .nil)) (fun s h v d e=>by subst e;simp at h)
theorem abS (T:Tx P K mg base a d):Bd K (d abm) ["value"] 1 [] [.pos 0]:=
  ab4 T.F_ratio_of (fun us ws=>match us,ws with | [u0],[]=>[u0] | _,_=>[])
    (fun _ _ _ _ _ _ us ws h1 h2=>match us,ws,h1,h2 with | [_],[],_,_=>rfl)
    (fun vs qs us ws h1 h2 r1 r2=>match vs,us,qs,ws,h1,h2,r1,r2 with | _,[_],_,[],_,_,.cons u0 .nil,.nil=>.cons u0 .nil) (fun s h v d e=>by subst e;simp at h)
theorem acm (T:Tx P K mg base a d):Binds K (d aaA) ["self"] []:=adq T.F_World_size fun _ _ _ _ _ _ us hl=>match us,hl with | [_],_=>rfl
theorem afb (T:Tx P K mg base a d):Binds K (d aaR) ["self"] []:=adq T.F_World_layers fun _ _ _ _ _ _ us hl=>match us,hl with | [_],_=>rfl
theorem acN (T:Tx P K mg base a d):Binds K (d aaW) ["self"] []:=adq T.F_World___repr__ fun _ _ _ _ _ _ us hl=>match us,hl with | [_],_=>rfl
abbrev ajp:List Str:=["_law_src","_law_some"]
theorem ais:FnScope ajp ["_law_src","_law_some"] (defScope acr):=⟨rfl,rfl,rfl,by decide +kernel,rfl,by decide +kernel,by decide +kernel⟩
theorem aix (T:Tx P K mg base a d):FnG P w K mg base 2 (a acd) (d acd) ["_law_src","_law_some"] spOf:=by
  have G__law_draw:FnG P w K mg base 1 (a aau) (d aau) ["_law_src","_law_many"] spDraw:=acA T
  refine aef T.F__law_of ais (fun args Q E h=>?_) (fun args Q E h=>?_) (fun cdv A outer s H E hr hg=>(aai (aat (aan ix_seq aag (aad (pv 1)) (aaf G__law_draw (hr.mono (by decide)) hg (tkOf rfl rfl rfl rfl) (aaE T) (by rfl) T.m__law_draw T.F__law_draw.kp (aaa (aac (pv 0)) (aaa (aam call_len abI (by rfl) T.n_len PySem.boot_len (aaa (aad (pv 1)) aab)) aab))) (fun _ _=>rfl))))) (fun args Q E h=>?_)
  · obtain ⟨x,rfl,_⟩:=h;rfl
  · obtain ⟨x,rfl,hx,_⟩:=h
    intro i o z
    match i with
    | 0=>cases z
    | 1=>exact hx o (Option.some.inj z)
    | i + 2=>simp at z
  · obtain ⟨x,rfl,hx,h⟩:=h
    cases x with
    | src=>exact h.elim
    | mu _ _ _=>exact h.elim
    | gh _ _=>exact h.elim
    | own o=>
      cases o with
      | lst ds=>
        obtain ⟨h1,h2,h3⟩:=h
        refine aed rfl ?_
        refine ⟨rfl,rfl,_,rfl,by omega,ac6 h2,fun n h0 h4=>?_⟩
        obtain ⟨y,e1,e2⟩:=ahg h0 h4
        exact agl rfl e1 (h3 y e2)
      | ins _ _ _=>exact h.elim
      | dk _=>exact h.elim
      | dt _=>exact h.elim
    | bor o=>
      cases o with
      | lst ds=>
        obtain ⟨h1,h2,h3⟩:=h
        refine aed rfl ?_
        refine ⟨rfl,rfl,_,rfl,by omega,ac6 h2,fun n h0 h4=>?_⟩
        obtain ⟨y,e1,e2⟩:=ahg h0 h4
        exact agl rfl e1 (h3 y e2)
      | ins _ _ _=>exact h.elim
      | dk _=>exact h.elim
      | dt _=>exact h.elim
    | see o=>exact absurd rfl (hx o)
    | d y=>
      cases y with
      | str z=>
        obtain ⟨h1,h2,h3⟩:=h
        refine ak3 h2 ?_
        refine ⟨rfl,rfl,_,rfl,by omega,ac6 h2,fun n h0 h4=>?_⟩
        obtain ⟨y,e1,e2⟩:=ahg (xs:=z.cps.toList) h0 (by simpa [Str.length] using h4)
        exact l_ixS h2 e1 (h3 y e2)
      | tup ds=>
        obtain ⟨h1,h2,h3⟩:=h
        refine ajC ?_
        refine ⟨rfl,rfl,_,rfl,by omega,ac6 h2,fun n h0 h4=>?_⟩
        obtain ⟨y,e1,e2⟩:=ahg h0 h4
        exact aaY e1 (h3 y e2)
      | lst ds=>
        obtain ⟨h1,h2,h3⟩:=h
        refine aed rfl ?_
        refine ⟨rfl,rfl,_,rfl,by omega,ac6 h2,fun n h0 h4=>?_⟩
        obtain ⟨y,e1,e2⟩:=ahg h0 h4
        exact agl rfl e1 (h3 y e2)
      | non=>exact h.elim
      | bl _=>exact h.elim
      | int _=>exact h.elim
      | ins _ _=>exact h.elim
      | dk _=>exact h.elim
      | dt _=>exact h.elim
      | any=>exact h.elim
      | raw _=>exact h.elim
      | kt _=>exact h.elim
abbrev aht:List Str:=["_law_found","_law_due"]
theorem agN:FnScope aht ["_law_found","_law_due"] (defScope abL):=⟨rfl,rfl,rfl,by decide +kernel,rfl,by decide +kernel,by decide +kernel⟩
abbrev agg:List Str:=["_law_e"]
theorem afn:FnScope agg ["_law_e"] (defScope abi):=⟨rfl,rfl,rfl,by decide +kernel,rfl,by decide +kernel,by decide +kernel⟩
theorem afs (T:Tx P K mg base a d):FnP P w K mg base 1 (a abE) (d abE) ["_law_e"] (spFields K):=by
  refine anh T.F__law_fields afn (fun p vs H Q E h=>?_) (fun cdv A outer s H vs Q E p h=>?_)
  · obtain ⟨_,_,_,_,_,rfl,_⟩:=h;rfl
  · obtain ⟨C,dx,fs,c,xs,rfl,px,no,hd,lc,fo,hq⟩:=h
    have hp:p∈[p]:=List.mem_singleton.mpr rfl
    refine ⟨_,(pss_cons (ps_if (pt_cmpR op_in_seq (abp hp (pv 0)) (pe_tup (pa_cons pe_str (pa_cons pe_str (pa_cons pe_str (pa_cons pe_str (pa_cons pe_str (pa_cons pe_str (pa_cons pe_str (pa_cons pe_str pa_nil))))))))) (by rfl)) (pss_one (ps_ret (pe_tup (pa_cons (abp hp (pv 0)) pa_nil)))) pss_nil)
      (pss_cons (ps_if (pt_cmpR op_in_seq (abp hp (pv 0)) (pe_tup (pa_cons pe_str (pa_cons pe_str (pa_cons pe_str pa_nil)))) (by rfl)) (pss_one (ps_ret (pe_tup (pa_cons (abp hp (pv 0)) pa_nil)))) pss_nil)
      (pss_cons (ps_if (pt_cmpR op_in_seq (abp hp (pv 0)) (pe_tup (pa_cons pe_str (pa_cons pe_str pa_nil))) (by rfl)) (pss_one (ps_ret (pe_tup (pa_cons (abp hp (pv 0)) pa_nil)))) pss_nil)
      (pss_cons (ps_if (pt_cmpR op_in_seq (abp hp (pv 0)) (pe_tup (pa_cons pe_str (pa_cons pe_str pa_nil))) (by rfl)) (pss_one (ps_ret (pe_tup (pa_cons (abp hp (pv 0)) pa_nil)))) pss_nil)
      (pss_cons (ps_if (pt_cmpR op_in_seq (abp hp (pv 0)) (pe_tup (pa_cons pe_str (pa_cons pe_str pa_nil))) (by rfl)) (pss_one (ps_ret (pe_tup (pa_cons (abp hp (pv 0)) pa_nil)))) pss_nil)
      (pss_cons (ps_if (pt_cmpR op_eq (abp hp (pv 0)) pe_str (nomark _)) (pss_one (ps_ret (pe_tup (pa_cons (abp hp (pv 0)) pa_nil)))) pss_nil)
      (pss_cons (ps_if (pt_cmpR op_eq (abp hp (pv 0)) pe_str (nomark _)) (pss_one (ps_ret (pe_tup (pa_cons (abp hp (pv 0)) (pa_cons (abp hp (pv 0)) (pa_cons (abp hp (pv 0)) pa_nil)))))) pss_nil)
      (pss_cons (ps_if (pt_cmpR op_eq (abp hp (pv 0)) pe_str (nomark _)) (pss_one (ps_ret (pe_tup (pa_cons (abp hp (pv 0)) pa_nil)))) pss_nil)
      (pss_cons (ps_if (pt_cmpR op_eq (abp hp (pv 0)) pe_str (nomark _)) (pss_one (ps_ret (pe_tup (pa_cons (abp hp (pv 0)) pa_nil)))) pss_nil)
      (pss_one (ps_ret (pe_ifExp (pt_cmpR op_eq (abp hp (pv 0)) pe_str (nomark _)) (pe_tup (pa_cons (abp hp (pv 0)) (pa_cons (abp hp (pv 0)) pa_nil))) (pe_tup pa_nil))))))))))))),?_⟩
    have nc:=no "code" (by decide)
    have fin:∀ {H2:Hp} (l:Addr),Ex H H2->H2 l=none->Q (.ref l) (upd H2 l (.tup xs)):=fun l e n=>hq _ l (e.trans (Ex.new n)) (e.free n) upd_same
    have one:∀ {H2:Hp} (f:Str),Ex H H2->f∈errFields->(fs.lookup f).map (fun v=>[v])=some xs->tTup (tCons (tXfP K p f (tVar 0)) tNil) [some (.ref p.1)] H2 Q:=fun {H2} f e hf z=>by
      cases q:fs.lookup f with
      | none=>rw [q] at z;cases z
      | some v=>
        rw [q] at z;cases z
        exact aln px (no f hf) (e _ _ hd) rfl q ⟨by show 1<=sizeLine;decide,fun l n=>fin l e n⟩
    unfold DL.fieldsOf at fo
    dsimp only at fo
    have e0:Ex H H:=Ex.refl H
    refine t_in ["InvalidRatio","InvalidNumber","InvalidName","InvalidLayer","InvalidPlace","InvalidPoint","InvalidForm","InvalidLimit"] px nc (e0 _ _ hd) rfl lc (by decide) (fun l0 n0=>ite2 (fun z=>?_) (fun z=>?_))
    · rw [if_pos (of_decide_eq_true z)] at fo
      exact one "given" (e0.trans (Ex.new n0)) (by decide) fo
    rw [if_neg (fun y=>z (decide_eq_true y))] at fo
    have e1:=e0.trans (Ex.new (o:=.tup ((["InvalidRatio","InvalidNumber","InvalidName","InvalidLayer","InvalidPlace","InvalidPoint","InvalidForm","InvalidLimit"]:List Str).map V.str)) n0)
    refine t_in ["InvalidRow","InvalidFact","InvalidCommand"] px nc (e1 _ _ hd) rfl lc (by decide) (fun l1 n1=>ite2 (fun z=>?_) (fun z=>?_))
    · rw [if_pos (of_decide_eq_true z)] at fo
      exact one "at" (e1.trans (Ex.new n1)) (by decide) fo
    rw [if_neg (fun y=>z (decide_eq_true y))] at fo
    have e2:=e1.trans (Ex.new (o:=.tup ((["InvalidRow","InvalidFact","InvalidCommand"]:List Str).map V.str)) n1)
    refine t_in ["InvalidStep","UnlikeEnds"] px nc (e2 _ _ hd) rfl lc (by decide) (fun l2 n2=>ite2 (fun z=>?_) (fun z=>?_))
    · rw [if_pos (of_decide_eq_true z)] at fo
      exact one "path" (e2.trans (Ex.new n2)) (by decide) fo
    rw [if_neg (fun y=>z (decide_eq_true y))] at fo
    have e3:=e2.trans (Ex.new (o:=.tup ((["InvalidStep","UnlikeEnds"]:List Str).map V.str)) n2)
    refine t_in ["DuplicateName","UnknownName"] px nc (e3 _ _ hd) rfl lc (by decide) (fun l3 n3=>ite2 (fun z=>?_) (fun z=>?_))
    · rw [if_pos (of_decide_eq_true z)] at fo
      exact one "name" (e3.trans (Ex.new n3)) (by decide) fo
    rw [if_neg (fun y=>z (decide_eq_true y))] at fo
    have e4:=e3.trans (Ex.new (o:=.tup ((["DuplicateName","UnknownName"]:List Str).map V.str)) n3)
    refine t_in ["InvalidText","UnknownScript"] px nc (e4 _ _ hd) rfl lc (by decide) (fun l4 n4=>ite2 (fun z=>?_) (fun z=>?_))
    · rw [if_pos (of_decide_eq_true z)] at fo
      exact one "word" (e4.trans (Ex.new n4)) (by decide) fo
    rw [if_neg (fun y=>z (decide_eq_true y))] at fo
    have e5:=e4.trans (Ex.new (o:=.tup ((["InvalidText","UnknownScript"]:List Str).map V.str)) n4)
    refine t_eq "InvalidTable" px nc (e5 _ _ hd) rfl lc (ite2 (fun z=>?_) (fun z=>?_))
    · rw [if_pos (of_decide_eq_true z)] at fo
      exact one "layer" e5 (by decide) fo
    rw [if_neg (fun y=>z (decide_eq_true y))] at fo
    refine t_eq "InvalidWay" px nc (e5 _ _ hd) rfl lc (ite2 (fun z=>?_) (fun z=>?_))
    · rw [if_pos (of_decide_eq_true z)] at fo
      split at fo
      · rename_i v1 v2 v3 q1 q2 q3
        cases fo
        exact ⟨.ref p.1,rfl,rfl,C,dx,fs,v1,px,no _ (by decide),e5 _ _ hd,q1,.ref p.1,rfl,rfl,C,dx,fs,v2,px,no _ (by decide),e5 _ _ hd,q2,.ref p.1,rfl,rfl,C,dx,fs,v3,px,no _ (by decide),e5 _ _ hd,q3,by show 3<=sizeLine;decide,fun l n=>fin l e5 n⟩
      · cases fo
    rw [if_neg (fun y=>z (decide_eq_true y))] at fo
    refine t_eq "Full" px nc (e5 _ _ hd) rfl lc (ite2 (fun z=>?_) (fun z=>?_))
    · rw [if_pos (of_decide_eq_true z)] at fo
      exact one "limit" e5 (by decide) fo
    rw [if_neg (fun y=>z (decide_eq_true y))] at fo
    refine t_eq "InvalidPage" px nc (e5 _ _ hd) rfl lc (ite2 (fun z=>?_) (fun z=>?_))
    · rw [if_pos (of_decide_eq_true z)] at fo
      exact one "line" e5 (by decide) fo
    rw [if_neg (fun y=>z (decide_eq_true y))] at fo
    refine t_eq "TooMany" px nc (e5 _ _ hd) rfl lc (ite2 (fun z=>?_) (fun z=>?_))
    · rw [if_pos (of_decide_eq_true z)] at fo
      split at fo
      · rename_i v1 v2 q1 q2
        cases fo
        exact ⟨.ref p.1,rfl,rfl,C,dx,fs,v1,px,no _ (by decide),e5 _ _ hd,q1,.ref p.1,rfl,rfl,C,dx,fs,v2,px,no _ (by decide),e5 _ _ hd,q2,by show 2<=sizeLine;decide,fun l n=>fin l e5 n⟩
      · cases fo
    · rw [if_neg (fun y=>z (decide_eq_true y))] at fo
      cases fo
      exact ⟨by show 0<=sizeLine;decide,fun l n=>fin l e5 n⟩
theorem afx (T:Tx P K mg base a d):Binds K (d abE) ["_law_e"] []:=adq T.F__law_fields fun _ _ _ _ _ _ us hl=>match us,hl with | [_],_=>rfl
abbrev abR:List Str:=["_law_f","_law_e"]
theorem aeM:FnScope abR ["_law_f"] (defScope s__law_ask):=⟨rfl,rfl,rfl,by decide +kernel,rfl,by decide +kernel,by decide +kernel⟩
theorem ahL (T:Tx P K mg base a d):Binds K (d aa8) ["_law_f"] []:=adq T.F__law_ask fun _ _ _ _ _ _ us hl=>match us,hl with | [_],_=>rfl
theorem ans (T:Tx P K mg base a d) {X:Cx} {q:Str} (h1:X.prog=P) (h2:X.w=w) (h3:X.K=K) (h4:X.mg=mg) (h5:X.base=base) (hr:Room 3 X.A):AskTo X abR "_law_ask" (defScope s__law_ask) (a aa8) (defBody s__law_ask) "_law_f" q (TTask K (csA K)):=by
  subst h1 h2 h3 h4 h5
  intro cdg f c' s H Q tl act hc tt
  have hgl:∀ x,(defScope s__law_ask).names.lookup x=some .globalImplicit->Gl (gotC X abR "_law_ask" (defScope s__law_ask) (a aa8) cdg s H E0) x:=fun x h=>h
  refine ⟨_,pss_one (aiu (X:=gotC X abR "_law_ask" (defScope s__law_ask) (a aa8) cdg s H E0) (i:=1) (Wout:=fun _ _ _ _=>False) rfl rfl aeM.nd rfl rfl
      (c1:=.ref (He.ga X.K "MilesError")) (c2:=.ref (He.ga X.K "Missing")) (c3:=.ref (He.ga X.K "NothingLeft"))
      ⟨hgl _ (by decide +kernel),by decide,.inl T.m_MilesError⟩ ⟨hgl _ (by decide +kernel),by decide,.inl T.m_Missing⟩ ⟨hgl _ (by decide +kernel),by decide,.inl T.m_NothingLeft⟩ acI
      (tb:=fun W D σ H=>∃ Ech:XK,(∀ cls d (σ':L2.St) H',σ'.length=2->Ech cls d H'->W cls d σ' H')/\σ[0]?=some (some (.ref f))/\H c'=some (LamX.CodeO c' q)/\tl Ech H fun v H'=>[V.str "",v].length<=sizeLine/\∀ l,H' l=none->D.rt (.ref l) (upd H' l (.tup [.str "",v])))
      (ts:=fun e cls d D σ H=>σ[1]?=some (some (.ref e))/\∃ C dx fs c xs,cls=.ref C/\d=some dx/\ErrC X.K (csA X.K) C/\H dx=some (.xd fs)/\fs.lookup ("code":Str)=some (V.str c)/\DL.fieldsOf c fs=some xs/\∀ H2 l,Ex H H2->H l=none->H2 l=some (.tup (.str c::xs))->D.rt (.ref l) H2)
      (fun W pn xe tk _=>?_) (fun e oe cls dd pn zn hv=>?_)),?_⟩
  · refine ⟨fun pins s' σ H' D I h'=>?_⟩
    obtain ⟨Ech,hW,g1,g2,g3⟩:=h'
    exact (pss_one (ps_ret (pe_tup (pa_cons pe_str (pa_cons (act W pn xe Ech _ _ tk hW) pa_nil))))).run pins s' σ H' D I ⟨g1,g2,g3⟩
  · obtain ⟨vs,hvs⟩:=hv
    have hot:L2H.Hot1 ((gotC X abR "_law_ask" (defScope s__law_ask) (a aa8) cdg s H E0).suite e ((e,oe)::pn)).A (e,oe):=⟨rfl,vs,hvs,zn.2.2 vs hvs⟩
    have hpn:(e,oe)∈((gotC X abR "_law_ask" (defScope s__law_ask) (a aa8) cdg s H E0).suite e ((e,oe)::pn)).pn:=List.mem_cons_self ..
    have rh:L2H.RoomH 1 ((gotC X abR "_law_ask" (defScope s__law_ask) (a aa8) cdg s H E0).suite e ((e,oe)::pn)).A:=by
      have r:=L2H.roomH_of (k:=1) (A:=X.A.deeper (envOfC "_law_ask" (defScope s__law_ask) s.heap.objs.size (a aa8) cdg)) ((hr.mono (by decide:2<=3)).deeper _)
      exact ⟨r.dp,r.un⟩
    refine ⟨fun pins s' σ H' D I h'=>?_⟩
    obtain ⟨g1,C,dx,fs,c,xs,rfl,rfl,ec,g2,g3,g4,g5⟩:=h'
    refine (pss_one (ps_ret (pe_op op_catA (pe_tup (pa_cons (abp hpn (pv 1)) pa_nil)) (akn (p:=(e,oe)) (afs T) rh hot hpn (by rfl) T.m__law_fields T.F__law_fields.kp (afx T) (pa_cons (pv 1) pa_nil))))).run pins s' σ H' D I ?_
    have px:PinX X.K (e,oe) C dx:=⟨zn,⟨vs,hvs⟩,ec.x⟩
    refine ⟨.ref e,g1,rfl,C,dx,fs,.str c,px,ec.no _ (by decide),g2,g3,?_⟩
    refine ⟨by show 1<=sizeLine;decide,fun l1 n1=>?_⟩
    refine ⟨.ref e,g1,C,dx,fs,c,xs,rfl,px,ec.no,by rw [upd_ne (ne_of_none g2 n1)];exact g2,g3,g4,fun H2 l e2 n2 t2=>?_⟩
    have t1:H2 l1=some (.tup [.str c]):=e2 _ _ upd_same
    have e12:Ex H' H2:=(Ex.new n1).trans e2
    refine ⟨l1,l,[.str c],xs,rfl,rfl,SqT.of t1,SqT.of t2,?_,(fun z=>by cases z),fun _ z=>?_,fun _ _ p np=>?_⟩
    · have:=aiF g4
      rw [sizeLine_eq];simp;omega
    · subst z
      exact g5 H2 l1 e12 n1 t1
    · exact g5 _ p (e12.trans (Ex.new np)) (e12.free np) upd_same
  · refine ⟨_,fun cls d σ' H' hl h=>?_,rfl,hc,tt⟩
    obtain ⟨C,dx,fs,c,xs,rfl,rfl,ec,g2,g3,g4,g5⟩:=h
    refine ⟨true,ec.is,fun _ e ne=>?_,fun z=>by cases z⟩
    exact ⟨List.getElem?_set_self (by omega),C,dx,fs,c,xs,rfl,rfl,ec,g2,g3,g4,g5⟩
theorem acV (T:Tx P K mg base a d) {cc:Addr} {cdv:Value} {A:Around} {outer:List Env} {s:Shared} {H:Hp} {E:XK} {W:WX} {xs:List Str} {params:Arguments} {body:Expr} {scope:Scope} {te:TD} {k:Nat} {p lpos pos:Pos} (hmem:(cc,He.tabOf K cc,(("law":Str)++".<locals>."++"<lambda>"))∈lamFns K) (hcode:cdv=.ref cc)
    (hr:Room (k + 3) (A.deeper (envOfC "law" (defScope adB) s.heap.objs.size (a agn) cdv))) (hgd:A.guards=some []) (hp:LamPar params xs) (L:LamN ["_law_script","_law_src","_law_turn","_law_size","_law_table_here","_law_x","_law_y","_law_rows","_law_first","_law_found","_law_odd","_law_asks","_law_due","_law_wide","_law_row","_law_one"] (defScope adB) scope xs)
    (hbody:∀ (A':Around) (outer':List Env) (s':Shared) (H':Hp) (E':XK) (f c':Addr),Room k (A'.deeper (LamX.lamEnv (cxOf (L2N.CX P w) P w K mg base ["_law_script","_law_src","_law_turn","_law_size","_law_table_here","_law_x","_law_y","_law_rows","_law_first","_law_found","_law_odd","_law_asks","_law_due","_law_wide","_law_row","_law_one"] "law" (defScope adB) (a agn) cdv A outer s H E) scope s'.heap.objs.size f c'))->A'.guards=some []->DE (lamC (cxOf (L2N.CX P w) P w K mg base ["_law_script","_law_src","_law_turn","_law_size","_law_table_here","_law_x","_law_y","_law_rows","_law_first","_law_found","_law_odd","_law_asks","_law_due","_law_wide","_law_row","_law_one"] "law" (defScope adB) (a agn) cdv A outer s H E) A' outer' s' H' E' scope f c') (fun cls d _ H'=>E' cls d H') body te) :
    DE (cxOf (L2N.CX P w) P w K mg base ["_law_script","_law_src","_law_turn","_law_size","_law_table_here","_law_x","_law_y","_law_rows","_law_first","_law_found","_law_odd","_law_asks","_law_due","_law_wide","_law_row","_law_one"] "law" (defScope adB) (a agn) cdv A outer s H E) W (.Call (.Name "_law_ask" p) [.Lambda params body scope lpos] [] pos) (dAsk K (csA K) te):=
  anp (X:=cxOf (L2N.CX P w) P w K mg base ["_law_script","_law_src","_law_turn","_law_size","_law_table_here","_law_x","_law_y","_law_rows","_law_first","_law_found","_law_odd","_law_asks","_law_due","_law_wide","_law_row","_law_one"] "law" (defScope adB) (a agn) cdv A outer s H E) (k:=k) (Ng:=abR) (by rfl) T.m__law_ask T.F__law_ask aeM (ahL T) rfl (.inl rfl) (ans T rfl rfl rfl rfl rfl (hr.mono (by omega))) hmem (T.tb _ hmem) hcode hp L (hr.mono (by omega)) hgd hbody
end
section
variable {P:Program} {w:World} {K:PySem.W.Frag} {mg:Str->Option Value} {base:Heap} {a:Nat->Addr} {d:Nat->FuncData}
theorem aj5 (x:D):wholeD x=(isB "int" x && !isB "bool" x):=by cases x<;>rfl
abbrev aiA:List Str:=["value"]
theorem aho:FnScope aiA ["value"] (defScope ab1):=⟨rfl,rfl,rfl,by decide +kernel,rfl,by decide +kernel,by decide +kernel⟩
theorem acR (T:Tx P K mg base a d):FnG P w K mg base 1 (a aaI) (d aaI) ["value"] (sp1 fun x Q _=>kindD x=true/\Q (.d (.bl (wholeD x)))):=by
  refine adx T.F_is_whole aho (fun cdv A outer s H E hr hg=>(aai (aat (aij (aam call_isi af1 (by rfl) T.n_isinstance (by decide +kernel) (aaa (aad (pv 0)) (aaa (ahb (T:="int") (by rfl) T.n_int (by decide +kernel)) aab))) (ahc (ann (aam call_isi af1 (by rfl) T.n_isinstance (by decide +kernel) (aaa (aad (pv 0)) (aaa (ahb (T:="bool") (by rfl) T.n_bool (by decide +kernel)) aab))))))))) (fun x Q E h=>?_)
  replace h:kindD x=true/\Q (.d (.bl (wholeD x))):=h
  obtain ⟨k,h⟩:=h
  refine akz rfl k (by decide) ?_
  rw [aj5] at h
  refine br (fun e=>?_) (fun e=>?_)
  · refine akz rfl k (by decide) (aa7 ?_)
    rw [e] at h
    exact h
  · rw [e] at h
    exact h
abbrev ahs:List Str:=["value","least","most"]
theorem agM:FnScope ahs ["value","least","most"] (defScope abK):=⟨rfl,rfl,rfl,by decide +kernel,rfl,by decide +kernel,by decide +kernel⟩
theorem agY (T:Tx P K mg base a d):FnG P w K mg base 2 (a abz) (d abz) ["value","least","most"] (sp3 fun x lo hi Q _=>kindD x=true/\∃ l m:Int,lo=.int l/\hi=.int m/\Q (.d (.bl (numD l m x)))):=by
  have G_is_whole:FnG P w K mg base 1 (a aaI) (d aaI) ["value"] (sp1 fun x Q _=>kindD x=true/\Q (.d (.bl (wholeD x)))):=acR T
  refine ala T.F_is_number agM (fun cdv A outer s H E hr hg=>(aai (aat (aij (aaf G_is_whole (hr.mono (by decide)) hg (tkOf rfl rfl rfl rfl) (acg T) (by rfl) T.m_is_whole T.F_is_whole.kp (aaa (aac (pv 0)) aab)) (ahc (akI op_le (aaM fun _ _ _=>.bl _) op_le (aaM fun _ _ _=>.bl _) (aad (pv 1)) (aad (pv 0)) (aad (pv 2)))))))) (fun x lo hi Q E h=>?_)
  replace h:kindD x=true/\∃ l m:Int,lo=.int l/\hi=.int m/\Q (.d (.bl (numD l m x))):=h
  obtain ⟨k,l,m,rfl,rfl,h⟩:=h
  refine ⟨rfl,rfl,_,rfl,k,?_⟩
  cases x with
  | int i=>
    refine brT ?_
    refine acj ?_
    have e:numD l m (.int i)=(decide (l<=i) && decide (i<=m)):=rfl
    rw [e] at h
    refine br (fun h1=>?_) (fun h1=>?_)
    · refine acj ?_
      rw [h1,Bool.true_and] at h
      exact h
    · rw [h1,Bool.false_and] at h
      exact h
  | ins _ _=>cases k
  | dk _=>cases k
  | dt _=>cases k
  | any=>cases k
  | raw _=>cases k
  | _=>exact brF h
abbrev aiB:List Str:=["value"]
theorem ahp:FnScope aiB ["value"] (defScope ab2):=⟨rfl,rfl,rfl,by decide +kernel,rfl,by decide +kernel,by decide +kernel⟩
theorem aeU (T:Tx P K mg base a d):FnG P w K mg base 2 (a abn) (d abn) ["value"] (sp1 fun x Q _=>kindD x=true/\pairK x/\Q (.d (.bl (ratioD x)))):=by
  have G_is_whole:FnG P w K mg base 1 (a aaI) (d aaI) ["value"] (sp1 fun x Q _=>kindD x=true/\Q (.d (.bl (wholeD x)))):=acR T
  refine adx T.F_is_ratio ahp (fun cdv A outer s H E hr hg=>(aah (acG (DW.dt (agr (acw (ace (aam call_isi af1 (by rfl) T.n_isinstance (by decide +kernel) (aaa (aad (pv 0)) (aaa (ahb (T:="tuple") (by rfl) T.n_tuple (by decide +kernel)) aab))))) (agr (abl (adL hr.units) agJ (aam call_len abI (by rfl) T.n_len PySem.boot_len (aaa (aad (pv 0)) aab)) aae (nomark _)) (agr (acw (ace (aaf G_is_whole (hr.mono (by decide)) hg (tkOf rfl rfl rfl rfl) (acg T) (by rfl) T.m_is_whole T.F_is_whole.kp (aaa (aan ix_seq aag (aad (pv 0)) aae (fun _ _=>rfl)) aab)))) (afM (acw (ace (aaf G_is_whole (hr.mono (by decide)) hg (tkOf rfl rfl rfl rfl) (acg T) (by rfl) T.m_is_whole T.F_is_whole.kp (aaa (aan ix_seq aag (aad (pv 0)) aae (fun _ _=>rfl)) aab))))))))) (aai (aat ahd)) abH)
      (aai (aat (aij (ae9 op_ge (aaM fun _ _ _=>.bl _) (aan ix_seq aag (aad (pv 0)) aae (fun _ _=>rfl)) aae (nomark _)) (ahc (ae9 (ab7 hr.units) adu (aii cr_gcd aiY (by rfl) T.b_gcd (aaa (aan ix_seq aag (aad (pv 0)) aae (fun _ _=>rfl)) (aaa (aan ix_seq aag (aad (pv 0)) aae (fun _ _=>rfl)) aab))) aae (nomark _)))))))) (fun x Q E h=>?_)
  replace h:kindD x=true/\pairK x/\Q (.d (.bl (ratioD x))):=h
  obtain ⟨k,k2,h⟩:=h
  refine akz rfl k (by decide) ?_
  cases x with
  | tup ds=>
    refine aa7 (brF ?_)
    refine ajC ?_
    refine aen ?_
    match ds,k2,h with
    | [],_,h=>exact brT (brT h)
    | [x],_,h=>
      rw [adI (by simp)] at h
      exact brT (brT h)
    | _::_::_::r,_,h=>
      rw [adI (by simp)] at h
      show Br (!decide (((r.length + 1 + 1 + 1:Nat):Int)=2)) _ _
      rw [decide_eq_false (by omega)]
      exact brT (brT h)
    | [x,y],k2,h=>
      refine brF ?_
      refine aaY rfl ?_
      refine ⟨rfl,rfl,x,rfl,k2.1,?_⟩
      refine aa7 ?_
      cases x with
      | int i=>
        refine brF ?_
        refine aaY rfl ?_
        refine ⟨rfl,rfl,y,rfl,k2.2,?_⟩
        refine aa7 ?_
        cases y with
        | int j=>
          refine brF ?_
          refine aaY rfl ?_
          refine acj ?_
          have e:ratioD (.tup [.int i,.int j])=(decide (1<=j) && decide (gcI i j=1)):=rfl
          rw [e] at h
          refine br (fun h1=>?_) (fun h1=>?_)
          · refine aaY rfl ?_
            refine aaY rfl ?_
            refine am5 ?_
            refine aen ?_
            rw [h1,Bool.true_and] at h
            exact h
          · rw [h1,Bool.false_and] at h
            exact h
        | ins _ _=>cases k2.2
        | dk _=>cases k2.2
        | dt _=>cases k2.2
        | any=>cases k2.2
        | raw _=>cases k2.2
        | _=>exact brT h
      | ins _ _=>cases k2.1
      | dk _=>cases k2.1
      | dt _=>cases k2.1
      | any=>cases k2.1
      | raw _=>cases k2.1
      | _=>exact brT (brT h)
  | ins _ _=>cases k
  | dk _=>cases k
  | dt _=>cases k
  | any=>cases k
  | raw _=>cases k
  | kt _=>exact k2.elim
  | _=>exact aa7 (brT (brT h))
abbrev ahr:List Str:=["value"]
theorem agL:FnScope ahr ["value"] (defScope abJ):=⟨rfl,rfl,rfl,by decide +kernel,rfl,by decide +kernel,by decide +kernel⟩
theorem agW (T:Tx P K mg base a d):FnG P w K mg base 3 (a abx) (d abx) ["value"] (sp1 fun x Q _=>kindD x=true/\pairK x/\Q (.d (.bl (wholeD x || ratioD x)))):=by
  have G_is_ratio:FnG P w K mg base 2 (a abn) (d abn) ["value"] (sp1 fun x Q _=>kindD x=true/\pairK x/\Q (.d (.bl (ratioD x)))):=aeU T
  have G_is_whole:FnG P w K mg base 1 (a aaI) (d aaI) ["value"] (sp1 fun x Q _=>kindD x=true/\Q (.d (.bl (wholeD x)))):=acR T
  refine adx T.F_is_valued agL (fun cdv A outer s H E hr hg=>(aai (aat (de_or (aaf G_is_whole (hr.mono (by decide)) hg (tkOf rfl rfl rfl rfl) (acg T) (by rfl) T.m_is_whole T.F_is_whole.kp (aaa (aac (pv 0)) aab)) (ahc (aaf G_is_ratio (hr.mono (by decide)) hg (tkOf rfl rfl rfl rfl) (aei T) (by rfl) T.m_is_ratio T.F_is_ratio.kp (aaa (aac (pv 0)) aab))))))) (fun x Q E h=>?_)
  replace h:kindD x=true/\pairK x/\Q (.d (.bl (wholeD x || ratioD x))):=h
  obtain ⟨k,k2,h⟩:=h
  refine ⟨rfl,rfl,x,rfl,k,?_⟩
  cases e:wholeD x with
  | true=>rw [e,Bool.true_or] at h;exact brT h
  | false=>
    rw [e,Bool.false_or] at h
    exact brF ⟨rfl,rfl,x,rfl,k,k2,h⟩
abbrev akt:List Str:=["top","bottom","by"]
theorem agK:FnScope akt ["top","bottom"] (defScope acP):=⟨rfl,rfl,rfl,by decide +kernel,rfl,by decide +kernel,by decide +kernel⟩
theorem ajm (T:Tx P K mg base a d):FnG P w K mg base 1 (a acD) (d acD) ["top","bottom"] (sp2 fun x y Q _=>∃ n m:Int,x=.int n/\y=.int m/\0 < m/\m.natAbs < 2 ^ 8000/\Q (.d (rD (Rat.divInt n m)))):=by
  refine ae6 T.F_lowest agK (fun cdv A outer s H E hr hg=>(aah (abG (i:=2) agK.nd rfl (Or.inl rfl) (aii cr_gcd aiY (by rfl) T.b_gcd (aaa (aad (pv 0)) (aaa (aad (pv 1)) aab))))
      (aai (aat (aaN (aaa (agv (aac (pv 0)) (aac (pv 2))) (aaa (agv (aac (pv 1)) (aac (pv 2))) aab))))))) (fun x y Q E h=>?_)
  replace h:∃ n m:Int,x=.int n/\y=.int m/\0 < m/\m.natAbs < 2 ^ 8000/\Q (.d (rD (Rat.divInt n m))):=h
  obtain ⟨n,m,rfl,rfl,h1,h2,h⟩:=h
  refine adz (.int (gcI n m)) (fun Q hQ=>am5 hQ) ?_
  refine afJ (ago h1 h2) ?_
  refine afJ (ago (n:=n) h1 h2) ?_
  rw [ai9 h1] at h
  exact abw rfl rfl h
abbrev pRof (K:PySem.W.Frag) (x:D) (Q:DV->Prop) (E:XE'):Prop:=kindD x=true/\pairK x/\(∀ q,ratOf x=some q->Q (.d (rD q)))/\(ratOf x=none->E (.ref (He.ga K "InvalidRatio")) (aco x))
abbrev aiy:List Str:=["value"]
theorem ahn:FnScope aiy ["value"] (defScope ab0):=⟨rfl,rfl,rfl,by decide +kernel,rfl,by decide +kernel,by decide +kernel⟩
theorem aeT (T:Tx P K mg base a d):FnG P w K mg base 3 (a abm) (d abm) ["value"] (sp1 fun x Q E=>pRof K x Q E):=by
  have G_is_ratio:FnG P w K mg base 2 (a abn) (d abn) ["value"] (sp1 fun x Q _=>kindD x=true/\pairK x/\Q (.d (.bl (ratioD x)))):=aeU T
  have G_is_whole:FnG P w K mg base 1 (a aaI) (d aaI) ["value"] (sp1 fun x Q _=>kindD x=true/\Q (.d (.bl (wholeD x)))):=acR T
  refine adx T.F_ratio_of ahn (fun cdv A outer s H E hr hg=>(aah (acG (ace (aaf G_is_whole (hr.mono (by decide)) hg (tkOf rfl rfl rfl rfl) (acg T) (by rfl) T.m_is_whole T.F_is_whole.kp (aaa (aac (pv 0)) aab))) (aai (aat (aaN (aaa (aac (pv 0)) (aaa aae aab))))) abH)
      (aah (acG (acw (ace (aaf G_is_ratio (hr.mono (by decide)) hg (tkOf rfl rfl rfl rfl) (aei T) (by rfl) T.m_is_ratio T.F_is_ratio.kp (aaa (aac (pv 0)) aab)))) (aai (adm rfl (tkOf rfl rfl rfl rfl) T.x_InvalidRatio (hr.mono (by decide)) (by rfl) T.m_InvalidRatio (aaa (aac (pv 0)) aab))) abH)
      (aai (aat (aac (pv 0))))))) (fun x Q E h=>?_)
  replace h:pRof K x Q E:=h
  obtain ⟨k,k2,h1,h2⟩:=h
  refine ⟨rfl,rfl,x,rfl,k,?_⟩
  refine aa7 ?_
  cases e:ratOf x with
  | some q=>
    rcases ratOf_some e with ⟨i,rfl,z⟩ | ⟨z1,z2,z3⟩
    · refine brT (abw rfl rfl ?_)
      have:=h1 q e
      rw [z] at this
      exact this
    · rw [z1]
      refine brF ⟨rfl,rfl,x,rfl,k,k2,aa7 ?_⟩
      rw [z2]
      refine brF ?_
      have:=h1 q e
      rw [<- z3] at this
      exact this
  | none=>
    obtain ⟨z1,z2⟩:=ait k2 e
    rw [z1]
    refine brF ⟨rfl,rfl,x,rfl,k,k2,aa7 ?_⟩
    rw [z2]
    exact brT ⟨rfl,aeB (h2 e)⟩
abbrev amY:List Str:=["one","other"]
theorem alx:FnScope amY ["one","other"] (defScope aeP):=⟨rfl,rfl,rfl,by decide +kernel,rfl,by decide +kernel,by decide +kernel⟩
theorem alJ (T:Tx P K mg base a d):FnG P w K mg base 2 (a aee) (d aee) ["one","other"] (sp2 fun x y Q _=>∃ p q:Rat,x=rD p/\y=rD q/\Nb 3900 p/\Nb 3900 q/\Q (.d (rD (p + q)))):=by
  have G_lowest:FnG P w K mg base 1 (a acD) (d acD) ["top","bottom"] (sp2 fun x y Q _=>∃ n m:Int,x=.int n/\y=.int m/\0 < m/\m.natAbs < 2 ^ 8000/\Q (.d (rD (Rat.divInt n m)))):=ajm T
  refine ae6 T.F_plus alx (fun cdv A outer s H E hr hg=>(aah (acG (abl (ab7 hr.units) adu (aan ix_seq aag (aad (pv 0)) aae (fun _ _=>rfl)) (aan ix_seq aag (aad (pv 1)) aae (fun _ _=>rfl)) (nomark _)) (aai (aat (aeg (abl (ab7 hr.units) adu (aan ix_seq aag (aad (pv 0)) aae (fun _ _=>rfl)) aae (nomark _)) (aaN (aaa (aeh (aan ix_seq aag (aad (pv 0)) aae (fun _ _=>rfl)) (aan ix_seq aag (aad (pv 1)) aae (fun _ _=>rfl))) (aaa aae aab))) (aaf G_lowest (hr.mono (by decide)) hg (tkOf rfl rfl rfl rfl) (afQ T) (by rfl) T.m_lowest T.F_lowest.kp (aaa (aeh (aan ix_seq aag (aad (pv 0)) aae (fun _ _=>rfl)) (aan ix_seq aag (aad (pv 1)) aae (fun _ _=>rfl))) (aaa (aan ix_seq aag (aad (pv 0)) aae (fun _ _=>rfl)) aab)))))) abH)
      (aai (aat (aaf G_lowest (hr.mono (by decide)) hg (tkOf rfl rfl rfl rfl) (afQ T) (by rfl) T.m_lowest T.F_lowest.kp (aaa (aeh (acf (aan ix_seq aag (aad (pv 0)) aae (fun _ _=>rfl)) (aan ix_seq aag (aad (pv 1)) aae (fun _ _=>rfl))) (acf (aan ix_seq aag (aad (pv 1)) aae (fun _ _=>rfl)) (aan ix_seq aag (aad (pv 0)) aae (fun _ _=>rfl)))) (aaa (acf (aan ix_seq aag (aad (pv 0)) aae (fun _ _=>rfl)) (aan ix_seq aag (aad (pv 1)) aae (fun _ _=>rfl))) aab))))))) (fun x y Q E h=>?_)
  replace h:∃ p q:Rat,x=rD p/\y=rD q/\Nb 3900 p/\Nb 3900 q/\Q (.d (rD (p + q))):=h
  obtain ⟨p,q,rfl,rfl,hp,hq,h⟩:=h
  refine aaY rfl (aaY rfl (aen ?_))
  refine br (fun h1=>?_) (fun h1=>?_)
  · have e:(p.den:Int)=q.den:=of_decide_eq_true h1
    refine aaY rfl (aen ?_)
    refine br (fun h2=>?_) (fun h2=>?_)
    · have e2:(p.den:Int)=1:=of_decide_eq_true h2
      refine aaY rfl (aaY rfl (afL (abw rfl rfl ?_)))
      have e3:rD (p + q)=rt (p.num + q.num) 1:=by
        rw [ahX e,e2,amP (by decide) (by unfold gcI;simp)]
      rw [e3] at h
      exact h
    · refine aaY rfl (aaY rfl (afL (aaY rfl ?_)))
      refine ⟨rfl,rfl,_,_,rfl,_,_,rfl,rfl,den_pos p,?_,?_⟩
      · exact Nat.lt_of_lt_of_le (nbd hp) (Nat.pow_le_pow_right (by decide) (by decide))
      · rw [<- ahX e];exact h
  · refine aaY rfl (aaY rfl (adw (mulW hp.n (nbd hq) (by decide)) ?_))
    refine aaY rfl (aaY rfl (adw (mulW hq.n (nbd hp) (by decide)) (afL ?_)))
    refine aaY rfl (aaY rfl (adw (mulW (nbd hp) (nbd hq) (by decide)) ?_))
    refine ⟨rfl,rfl,_,_,rfl,_,_,rfl,rfl,Int.mul_pos (den_pos p) (den_pos q),aif hp hq,?_⟩
    rw [af7];exact h
abbrev alQ:List Str:=["one","other"]
theorem ake:FnScope alQ ["one","other"] (defScope adC):=⟨rfl,rfl,rfl,by decide +kernel,rfl,by decide +kernel,by decide +kernel⟩
theorem akr (T:Tx P K mg base a d):FnG P w K mg base 1 (a adf) (d adf) ["one","other"] (sp2 fun x y Q _=>∃ p q:Rat,x=rD p/\y=rD q/\Nb 3900 p/\Nb 3900 q/\Q (.d (.bl (decide (p < q))))):=by
  refine ae6 T.F_below ake (fun cdv A outer s H E hr hg=>(aai (aat (ae9 op_lt (aaM fun _ _ _=>.bl _) (acf (aan ix_seq aag (aad (pv 0)) aae (fun _ _=>rfl)) (aan ix_seq aag (aad (pv 1)) aae (fun _ _=>rfl))) (acf (aan ix_seq aag (aad (pv 1)) aae (fun _ _=>rfl)) (aan ix_seq aag (aad (pv 0)) aae (fun _ _=>rfl))) (nomark _))))) (fun x y Q E h=>?_)
  replace h:∃ p q:Rat,x=rD p/\y=rD q/\Nb 3900 p/\Nb 3900 q/\Q (.d (.bl (decide (p < q)))):=h
  obtain ⟨p,q,rfl,rfl,hp,hq,h⟩:=h
  refine aaY rfl (aaY rfl (adw (mulW hp.n (nbd hq) (by decide)) ?_))
  refine aaY rfl (aaY rfl (adw (mulW hq.n (nbd hp) (by decide)) ?_))
  refine acj ?_
  rw [akV];exact h
abbrev ag2:List Str:=["value","sign"]
theorem adV:FnScope ag2 ["value"] (defScope ab9):=⟨rfl,rfl,rfl,by decide +kernel,rfl,by decide +kernel,by decide +kernel⟩
theorem aiw (T:Tx P K mg base a d):FnG P w K mg base 1 (a acb) (d acb) ["value"] (sp1 fun x Q _=>kindD x=true/\(∀ z,x=.str z->z.length<=szl)/\Q (.d (.bl (nameB x)))):=by
  refine adx T.F_is_name adV (fun cdv A outer s H E hr hg=>(aah (acG (DW.dt (agr (acw (ace (aam call_isi af1 (by rfl) T.n_isinstance (by decide +kernel) (aaa (aad (pv 0)) (aaa (ahb (T:="str") (by rfl) T.n_str (by decide +kernel)) aab))))) (afM (acw (aie op_le (aaM fun _ _ _=>.bl _) op_le (aaM fun _ _ _=>.bl _) aae (aam call_len abI (by rfl) T.n_len PySem.boot_len (aaa (aad (pv 0)) aab)) aae))))) (aai (aat ahd)) abH)
      (aai (aat (aam (cr_all rfl) aiZ (by rfl) T.n_all (by decide +kernel) (aaa (adE (own:=[("sign",1)]) rfl adV.nd (acL (aac (pv 0))) (blkOk_by (own:=[("sign",1)]) (N:=ag2) (sc:=(defScope ab9)) (by decide +kernel)) (fun _ _ _ _ _=>(aaB (i:=1) adV.nd rfl (Or.inl rfl))) (fun _ _ _ _ _=>abF) (fun _ _ _ _ _=>(ae9 ah0 akT (aad (pv 1)) (adR (by rfl) T.c_LETTERS) (by rfl)))) aab)))))) (fun x Q E h=>?_)
  replace h:kindD x=true/\(∀ z,x=.str z->z.length<=szl)/\Q (.d (.bl (nameB x))):=h
  obtain ⟨k,hz,h⟩:=h
  refine akz rfl k (by decide) ?_
  cases x with
  | str z=>
    have hz:=hz z rfl
    replace h:Q (.d (.bl (nameOk z))):=h
    refine aa7 (brF ?_)
    refine ak3 hz ?_
    refine acj ?_
    refine br (fun h1=>?_) (fun h1=>?_)
    · refine acj ?_
      have h1':1<=z.length:=by have:=of_decide_eq_true h1;omega
      cases h2:decide ((z.length:Int)<=5) with
      | false=>
        have h2':=of_decide_eq_false h2
        refine brT ?_
        have:nameOk z=false:=by
          unfold nameOk
          rw [decide_eq_false (show ¬ z.length<=5 by omega)];simp
        rw [this] at h;exact h
      | true=>
        have h2':=of_decide_eq_true h2
        refine brF ?_
        refine al2 ?_
        refine agk lowD _ (by rw [aiQ];exact hz) (fun d hd M A m=>?_) ?_
        · obtain ⟨c,hc,rfl⟩:=ajq hd
          refine brT ?_
          refine l_inC rfl ?_
          exact m
        · refine am9 (bs:=(z.cps.toList.map low)) rfl ?_ ?_
          · rw [<- afa low];unfold DL.signs;rw [List.map_map];rfl
          · rw [List.all_map]
            have:nameOk z=z.cps.toList.all low:=by unfold nameOk;rw [decide_eq_true h1',decide_eq_true (show z.length<=5 by omega)];rfl
            rw [this] at h;exact h
    · refine brT ?_
      have h1':=of_decide_eq_false h1
      have:nameOk z=false:=by
        unfold nameOk
        rw [decide_eq_false (show ¬ 1<=z.length by omega)];rfl
      rw [this] at h;exact h
  | ins _ _=>cases k
  | dk _=>cases k
  | dt _=>cases k
  | any=>cases k
  | raw _=>cases k
  | _=>exact aa7 (brT (brT h))
abbrev aeY:List Str:=["value","row"]
theorem ac7:FnScope aeY ["value"] (defScope abt):=⟨rfl,rfl,rfl,by decide +kernel,rfl,by decide +kernel,by decide +kernel⟩
theorem agX (T:Tx P K mg base a d):FnG P w K mg base 1 (a aby) (d aby) ["value"] (sp1 fun x Q _=>Pl x/\(∀ ds,itemsD x=some ds->ds.length < 2 ^ 60/\∀ r∈ds,Pl r)/\Q (.d (.bl (isSqD x)))):=by
  refine adx T.F_is_square ac7 (fun cdv A outer s H E hr hg=>(aah (acG (DW.dt (agr (acw (ace (aam ahf ahW (by rfl) T.n_isinstance (by decide +kernel) (aaa (aad (pv 0)) (aaa (aaN (aaa (ahb (T:="list") (by rfl) T.n_list (by decide +kernel)) (aaa (ahb (T:="tuple") (by rfl) T.n_tuple (by decide +kernel)) aab))) aab))))) (afM (acw (aie op_le (aaM fun _ _ _=>.bl _) op_le (aaM fun _ _ _=>.bl _) aae (aam call_len abI (by rfl) T.n_len PySem.boot_len (aaa (aad (pv 0)) aab)) (adR (by rfl) T.c_MOST_PLACES)))))) (aai (aat ahd)) abH)
      (aai (aat (aam (cr_all rfl) aiZ (by rfl) T.n_all (by decide +kernel) (aaa (adE (own:=[("row",1)]) rfl ac7.nd (acL (aac (pv 0))) (blkOk_by (own:=[("row",1)]) (N:=aeY) (sc:=(defScope abt)) (by decide +kernel)) (fun _ _ _ _ _=>(aaB (i:=1) ac7.nd rfl (Or.inl rfl))) (fun _ _ _ _ _=>abF) (fun _ _ _ _ _=>(aij (aam ahf ahW (by rfl) T.n_isinstance (by decide +kernel) (aaa (aad (pv 1)) (aaa (aaN (aaa (ahb (T:="list") (by rfl) T.n_list (by decide +kernel)) (aaa (ahb (T:="tuple") (by rfl) T.n_tuple (by decide +kernel)) aab))) aab))) (ahc (ae9 (ab7 hr.units) adu (aam call_len abI (by rfl) T.n_len PySem.boot_len (aaa (aad (pv 1)) aab)) (aam call_len abI (by rfl) T.n_len PySem.boot_len (aaa (aad (pv 0)) aab)) (nomark _)))))) aab)))))) (fun x Q E h=>?_)
  replace h:Pl x/\(∀ ds,itemsD x=some ds->ds.length < 2 ^ 60/\∀ r∈ds,Pl r)/\Q (.d (.bl (isSqD x))):=h
  obtain ⟨pl,hr,h⟩:=h
  have hz:szl=16777216:=rfl
  unfold isSqD at h
  refine abw rfl rfl ?_
  refine ak4 (Ts:=["list","tuple"]) (d:=x) rfl pl.kind rfl (by decide) ?_
  rw [aia x pl]
  cases e:itemsD x with
  | none=>
    rw [e] at h
    dsimp only at h
    exact aa7 (brT (brT h))
  | some ds=>
    rw [e] at h
    obtain ⟨hl,hr⟩:=hr ds e
    dsimp only at h
    refine aa7 (brF ?_)
    refine ae2 e ?_
    refine acj ?_
    by_cases c1:1<=ds.length
    · rw [decide_eq_true (show (1:Int)<=ds.length by omega)]
      refine brT ?_
      refine acj ?_
      by_cases c2:ds.length<=9
      · rw [decide_eq_true (show (ds.length:Int)<=9 by omega)]
        refine brF ?_
        rw [decide_eq_true c1,decide_eq_true c2] at h
        refine ahB e ?_
        refine agk (fun r=>.bl (rowSq ds.length r)) _ (by omega) (fun d hd M A m=>?_) ?_
        · refine brT ?_
          refine abw rfl rfl ?_
          refine ak4 (Ts:=["list","tuple"]) (d:=d) rfl (hr d hd).kind rfl (by decide) ?_
          rw [aia d (hr d hd)]
          unfold rowSq at m
          cases e2:itemsD d with
          | none=>
            rw [e2] at m
            exact brF m
          | some es=>
            rw [e2] at m
            refine brT ?_
            refine ae2 e2 ?_
            refine ae2 e ?_
            refine aen ?_
            have z:decide ((es.length:Int)=(ds.length:Int))=(es.length == ds.length):=by rw [Bool.eq_iff_iff,decide_eq_true_iff,beq_iff_eq];omega
            rw [z]
            exact m
        · refine am9 (bs:=ds.map (rowSq ds.length)) rfl (afa _ _) ?_
          rw [List.all_map]
          exact h
      · rw [decide_eq_false (show ¬ (ds.length:Int)<=9 by omega)]
        rw [decide_eq_true c1,decide_eq_false c2] at h
        exact brT h
    · rw [decide_eq_false (show ¬ (1:Int)<=ds.length by omega)]
      rw [decide_eq_false c1] at h
      exact brF (brT h)
theorem amy {d:D} {q:Rat} (h:ratOf d=some q):(wholeD d || ratioD d)=true:=by
  rcases ratOf_some h with ⟨i,rfl,_⟩ | ⟨_,z,_⟩
  · rfl
  · rw [z,Bool.or_true]
theorem amz {d:D} (h:ratOf d=none):(wholeD d || ratioD d)=false:=by
  cases w:wholeD d with
  | true=>cases d<;>first | (cases w;done) | (cases h;done)
  | false=>
    rw [Bool.false_or]
    cases z:ratioD d with
    | false=>rfl
    | true=>
      exfalso
      unfold ratioD at z
      split at z
      · rename_i a b
        rw [Bool.and_eq_true,decide_eq_true_iff,decide_eq_true_iff] at z
        have h:(if 1<=b/\gcI a b=1 then some (Rat.divInt a b) else none)=none:=h
        rw [if_pos z] at h
        cases h
      · cases z
theorem alN (q:Rat):decide (q.num < 0)=decide (q < 0):=by
  have h:(0<=q.num) ↔ 0<=q:=Rat.num_nonneg
  rw [Bool.eq_iff_iff,decide_eq_true_iff,decide_eq_true_iff,<- Int.not_le,<- Rat.not_le,h]
theorem af8 {K:PySem.W.Frag} {d:D} {q:Rat} {Q:DV->Prop} {E:XE'} (p:Pl d) (h:ratOf d=some q) (k:Q (.d (rD q))):pRof K d Q E:=⟨p.kind,p.pair,fun q' z=>by rw [h] at z;cases z;exact k,fun z=>by rw [h] at z;cases z⟩
abbrev acS:List Str:=["rows","size","start","goal","value","sums","by","one"]
theorem aar:FnScope acS ["rows"] (defScope aaP):=⟨rfl,rfl,rfl,by decide +kernel,rfl,by decide +kernel,by decide +kernel⟩
theorem afp (T:Tx P K mg base a d):FnG P w K mg base 5 (a aaZ) (d aaZ) ["rows"] (sp1 fun x Q _=>∃ (n:Nat) (e:Nat->Nat->D),TabL n e x/\EnOk n e/\FirstW n e fun d=>Q (.d d)):=by
  have G_below:FnG P w K mg base 1 (a adf) (d adf) ["one","other"] (sp2 fun x y Q _=>∃ p q:Rat,x=rD p/\y=rD q/\Nb 3900 p/\Nb 3900 q/\Q (.d (.bl (decide (p < q))))):=akr T
  have G_is_valued:FnG P w K mg base 3 (a abx) (d abx) ["value"] (sp1 fun x Q _=>kindD x=true/\pairK x/\Q (.d (.bl (wholeD x || ratioD x)))):=agW T
  have G_plus:FnG P w K mg base 2 (a aee) (d aee) ["one","other"] (sp2 fun x y Q _=>∃ p q:Rat,x=rD p/\y=rD q/\Nb 3900 p/\Nb 3900 q/\Q (.d (rD (p + q)))):=alJ T
  have G_ratio_of:FnG P w K mg base 3 (a abm) (d abm) ["value"] (sp1 fun x Q E=>pRof K x Q E):=aeT T
  refine adx T.F_first_fault aar (fun cdv A outer s H E hr hg=>(aah (abG (i:=1) aar.nd rfl (Or.inl rfl) (aam call_len abI (by rfl) T.n_len PySem.boot_len (aaa (aad (pv 0)) aab)))
      (aah (adh (passes_of rfl) rfl (abY (by rfl) T.n_range (aaa (aac (pv 1)) aab)) (aaB (i:=2) aar.nd rfl (Or.inr rfl)) (aai (adh (passes_of rfl) rfl (abY (by rfl) T.n_range (aaa (aac (pv 1)) aab)) (aaB (i:=3) aar.nd rfl (Or.inr rfl)) (aah (abG (i:=4) aar.nd rfl (Or.inl rfl) (aan ix_seq aag (aan ix_seq aag (aad (pv 0)) (aac (pv 2)) (fun _ _=>rfl)) (aac (pv 3)) (fun _ _=>rfl)))
      (aai (acG (DW.dt (agr (acw (ace (aaf G_is_valued (hr.mono (by decide)) hg (tkOf rfl rfl rfl rfl) (agy T) (by rfl) T.m_is_valued T.F_is_valued.kp (aaa (aac (pv 4)) aab)))) (agr (abl op_lt (aaM fun _ _ _=>.bl _) (aan ix_seq aag (aaf G_ratio_of (hr.mono (by decide)) hg (tkOf rfl rfl rfl rfl) (abS T) (by rfl) T.m_ratio_of T.F_ratio_of.kp (aaa (aac (pv 4)) aab)) aae (fun _ _=>rfl)) aae (nomark _)) (afM (DW.dt (aid (abl (ab7 hr.units) adu (aad (pv 2)) (aad (pv 3)) (nomark _)) (ags (abl (adL hr.units) agJ (aaf G_ratio_of (hr.mono (by decide)) hg (tkOf rfl rfl rfl rfl) (abS T) (by rfl) T.m_ratio_of T.F_ratio_of.kp (aaa (aac (pv 4)) aab)) (adR (by rfl) T.c_ZERO) (nomark _))))))))) (aai (aat (aaN (aaa (aac (pv 2)) (aaa (aac (pv 3)) aab))))) abH))))))
      (aah (adh (passes_of rfl) rfl (abY (by rfl) T.n_range (aaa (aac (pv 1)) aab)) (aaB (i:=2) aar.nd rfl (Or.inr rfl)) (aai (adh (passes_of rfl) rfl (abY (by rfl) T.n_range (aaa (aac (pv 1)) aab)) (aaB (i:=3) aar.nd rfl (Or.inr rfl)) (aah (akG (i:=5) (own:=[("by",6)]) rfl aar.nd rfl rfl (sw_true rfl rfl rfl (by decide +kernel)) (abY (by rfl) T.n_range (aaa (aac (pv 1)) aab)) (blkOk_by (own:=[("by",6)]) (N:=acS) (sc:=(defScope aaP)) (by decide +kernel)) (fun _ _ _ _ _=>(aaB (i:=6) aar.nd rfl (Or.inl rfl))) (fun _ _ _ _ _=>abF) (fun _ _ _ _ _=>(aaf G_plus (hr.mono (by decide)) hg acI (akN T) (by rfl) T.m_plus T.F_plus.kp (aaa (aaf G_ratio_of (hr.mono (by decide)) hg acI (abS T) (by rfl) T.m_ratio_of T.F_ratio_of.kp (aaa (aan ix_seq aag (aan ix_seq aag (aad (pv 0)) (aac (pv 2)) (fun _ _=>rfl)) (aac (pv 6)) (fun _ _=>rfl)) aab)) (aaa (aaf G_ratio_of (hr.mono (by decide)) hg acI (abS T) (by rfl) T.m_ratio_of T.F_ratio_of.kp (aaa (aan ix_seq aag (aan ix_seq aag (aad (pv 0)) (aac (pv 6)) (fun _ _=>rfl)) (aac (pv 3)) (fun _ _=>rfl)) aab)) aab)))))
      (aai (acG (ace (aam (cr_any rfl) alu (by rfl) T.n_any (by decide +kernel) (aaa (adE (own:=[("one",7)]) rfl aar.nd (acL (aac (pv 5))) (blkOk_by (own:=[("one",7)]) (N:=acS) (sc:=(defScope aaP)) (by decide +kernel)) (fun _ _ _ _ _=>(aaB (i:=7) aar.nd rfl (Or.inl rfl))) (fun _ _ _ _ _=>abF) (fun _ _ _ _ _=>(aaf G_below (hr.mono (by decide)) hg acI (aj3 T) (by rfl) T.m_below T.F_below.kp (aaa (aac (pv 7)) (aaa (aaf G_ratio_of (hr.mono (by decide)) hg acI (abS T) (by rfl) T.m_ratio_of T.F_ratio_of.kp (aaa (aan ix_seq aag (aan ix_seq aag (aad (pv 0)) (aac (pv 2)) (fun _ _=>rfl)) (aac (pv 3)) (fun _ _=>rfl)) aab)) aab))))) aab))) (aai (aat (aaN (aaa (aac (pv 2)) (aaa (aac (pv 3)) aab))))) abH))))))
      (aai (aat acM)))))) (fun x Q E h=>?_)
  replace h:∃ (n:Nat) (e:Nat->Nat->D),TabL n e x/\EnOk n e/\FirstW n e fun d=>Q (.d d):=h
  obtain ⟨n,e,tl,tk,h1,h2⟩:=h
  have hz:szl=16777216:=rfl
  have l9:=tk.l9
  refine adz (.int n) (fun Q hQ=>tl.len hQ) ?_
  refine abf (fun s=>(∀ i j,i < n->j < n->¬ bad1 e i j)/\∃ a2 a3 a4,s=[some (.d x),some (.d (.int n)),a2,a3,a4,none,none,none]) (fun N hN=>?_) (fun s hs=>?_)
  · refine acC (by omega) (by omega) ?_
    refine adl (fun i s=>(∀ i' j',ahead n i 0 i' j'->¬ bad1 e i' j')/\∃ a2 a3 a4,s=[some (.d x),some (.d (.int n)),a2,a3,a4,none,none,none]) n ⟨fun _ _ z=>absurd z ad5,_,_,_,rfl⟩ (fun N1 i s hi hN1 hs=>?_) (fun s ⟨hg,hs⟩=>hN s ⟨fun i j a b=>hg i j (afd a b),hs⟩)
    obtain ⟨hg,a2,a3,a4,rfl⟩:=hs
    refine acC (by omega) (by omega) ?_
    refine adl (fun j s=>(∀ i' j',ahead n i j i' j'->¬ bad1 e i' j')/\∃ a3 a4,s=[some (.d x),some (.d (.int n)),some (.d (.int (i:Int))),a3,a4,none,none,none]) n ⟨hg,_,_,rfl⟩ (fun N2 j s hj hN2 hs=>?_) (fun s ⟨hg,a3,a4,hs⟩=>hN1 s ⟨fun i' j' z=>hg i' j' (afc z),_,a3,a4,hs⟩)
    obtain ⟨hg,a3,a4,rfl⟩:=hs
    have good:∀ {s:DSt},¬ bad1 e i j->(∃ a3 a4,s=[some (.d x),some (.d (.int n)),some (.d (.int (i:Int))),a3,a4,none,none,none])->N2 s:=fun {s} nb z=>hN2 s ⟨fun i' j' y=>by
      rcases ahead_step y with y | ⟨rfl,rfl⟩
      · exact hg i' j' y
      · exact nb,z⟩
    refine adz (e i j) (fun Q hQ=>tl.cell hi hj hQ) ?_
    refine ⟨rfl,rfl,_,rfl,(tk.pl i j hi hj).kind,(tk.pl i j hi hj).pair,?_⟩
    cases z:ratOf (e i j) with
    | none=>
      rw [amz z]
      refine aa7 (brT ?_)
      have b:bad1 e i j:=by unfold bad1;rw [z];trivial
      exact brT (abw rfl rfl (h1 i j hi hj b hg))
    | some q=>
      rw [amy z]
      refine aa7 (brF ?_)
      refine ⟨rfl,rfl,_,rfl,af8 (tk.pl i j hi hj) z ?_⟩
      refine aaY rfl (acj ?_)
      rw [alN]
      by_cases c1:q < 0
      · rw [decide_eq_true c1]
        have b:bad1 e i j:=by unfold bad1;rw [z];exact .inl c1
        exact brT (brT (abw rfl rfl (h1 i j hi hj b hg)))
      rw [decide_eq_false c1]
      refine brF ?_
      refine aen ?_
      by_cases c2:i=j
      · subst c2
        rw [decide_eq_true rfl]
        refine brT ?_
        refine ⟨rfl,rfl,_,rfl,af8 (tk.pl i i hi hi) z ?_⟩
        refine al3 (p:=q) (q:=0) ?_
        by_cases c3:q=0
        · subst c3
          refine brF (good ?_ ⟨_,_,rfl⟩)
          unfold bad1;rw [z]
          exact fun y=>y.elim (fun y=>absurd y c1) fun y=>y.2 rfl
        · have b:bad1 e i i:=by unfold bad1;rw [z];exact .inr ⟨rfl,c3⟩
          rw [decide_eq_false c3]
          exact brT (abw rfl rfl (h1 i i hi hj b hg))
      · rw [decide_eq_false (by omega)]
        refine brF (brF (good ?_ ⟨_,_,rfl⟩))
        unfold bad1;rw [z]
        exact fun y=>y.elim (fun y=>absurd y c1) fun y=>c2 y.1
  obtain ⟨hg,a2,a3,a4,rfl⟩:=hs
  have tot:∀ i j,i < n->j < n->∃ q,ratOf (e i j)=some q:=fun i j hi hj=>by
    cases z:ratOf (e i j) with
    | some q=>exact ⟨q,rfl⟩
    | none=>exact absurd (by unfold bad1;rw [z];trivial) (hg i j hi hj)
  obtain ⟨f,hf⟩:∃ f:Nat->Nat->Rat,∀ i j,i < n->j < n->ratOf (e i j)=some (f i j):=⟨fun i j=>(ratOf (e i j)).getD 0,fun i j hi hj=>by
    obtain ⟨q,z⟩:=tot i j hi hj
    show ratOf (e i j)=some ((ratOf (e i j)).getD 0)
    rw [z];rfl⟩
  obtain ⟨h3,h4⟩:=h2 hg f hf
  have nb:∀ i j,i < n->j < n->Nb 1900 (f i j):=fun i j hi hj=>tk.nb i j _ hi hj (hf i j hi hj)
  have rof:∀ (i j:Nat) (hi:i < n) (hj:j < n) (QQ:DV->Prop) (EE:XE'),QQ (.d (rD (f i j)))->pRof K (e i j) QQ EE:=fun i j hi hj QQ EE q=>af8 (tk.pl i j hi hj) (hf i j hi hj) q
  refine abf (fun s=>(∀ i j,i < n->j < n->¬ bad2 n f i j)/\∃ a2 a3 a4 a5,s=[some (.d x),some (.d (.int n)),a2,a3,a4,a5,none,none]) (fun N hN=>?_) (fun s hs=>?_)
  · refine acC (by omega) (by omega) ?_
    refine adl (fun i s=>(∀ i' j',ahead n i 0 i' j'->¬ bad2 n f i' j')/\∃ a2 a3 a4 a5,s=[some (.d x),some (.d (.int n)),a2,a3,a4,a5,none,none]) n ⟨fun _ _ z=>absurd z ad5,_,_,_,_,rfl⟩ (fun N1 i s hi hN1 hs=>?_) (fun s ⟨hg,hs⟩=>hN s ⟨fun i j a b=>hg i j (afd a b),hs⟩)
    obtain ⟨hg,a2,a3,a4,a5,rfl⟩:=hs
    refine acC (by omega) (by omega) ?_
    refine adl (fun j s=>(∀ i' j',ahead n i j i' j'->¬ bad2 n f i' j')/\∃ a3 a4 a5,s=[some (.d x),some (.d (.int n)),some (.d (.int (i:Int))),a3,a4,a5,none,none]) n ⟨hg,_,_,_,rfl⟩ (fun N2 j s hj hN2 hs=>?_) (fun s ⟨hg,a3,a4,a5,hs⟩=>hN1 s ⟨fun i' j' z=>hg i' j' (afc z),_,a3,a4,a5,hs⟩)
    obtain ⟨hg,a3,a4,a5,rfl⟩:=hs
    refine aep ((List.range n).map fun k=>rD (f i k + f k j)) (fun Q hQ=>?_) ?_
    · refine acC (by omega) (by omega) ?_
      refine ahy (fun k=>rD (f i k + f k j)) _ (by omega) (fun k hk M A m=>?_) hQ
      refine brT ?_
      refine tl.cell hi hk ?_
      refine ⟨rfl,rfl,_,rfl,rof i k hi hk _ _ ?_⟩
      refine tl.cell hk hj ?_
      refine ⟨rfl,rfl,_,rfl,rof k j hk hj _ _ ?_⟩
      exact ⟨rfl,rfl,_,_,rfl,_,_,rfl,rfl,(nb i k hi hk).mono (by decide),(nb k j hk hj).mono (by decide),m⟩
    refine acF ?_
    refine agj (fun k=>rD (f i k + f k j)) (fun k=>.bl (decide (f i k + f k j < f i j))) _ (by rw [List.length_range];omega) (fun k hk M A m=>?_) ?_
    · have hk:=List.mem_range.mp hk
      refine brT ?_
      refine tl.cell hi hj ?_
      refine ⟨rfl,rfl,_,rfl,rof i j hi hj _ _ ?_⟩
      exact ⟨rfl,rfl,_,_,rfl,_,_,rfl,rfl,(ag0 (nb i k hi hk) (nb k j hk hj)).mono (by decide),(nb i j hi hj).mono (by decide),m⟩
    · refine l_any (bs:=(List.range n).map fun k=>decide (f i k + f k j < f i j)) rfl (afa _ _) ?_
      rw [List.any_map]
      by_cases b:bad2 n f i j
      · have e0:((List.range n).any (id ∘ fun k=>decide (f i k + f k j < f i j)))=true:=by
          obtain ⟨k,hk,lt⟩:=b
          rw [List.any_eq_true]
          exact ⟨k,List.mem_range.mpr hk,decide_eq_true lt⟩
        rw [e0]
        exact aa7 (brT (abw rfl rfl (h3 i j hi hj b hg)))
      · have e0:((List.range n).any (id ∘ fun k=>decide (f i k + f k j < f i j)))=false:=by
          rw [List.any_eq_false]
          intro k hk y
          exact b ⟨k,List.mem_range.mp hk,of_decide_eq_true y⟩
        rw [e0]
        refine aa7 (brF (hN2 _ ⟨fun i' j' y=>?_,_,_,_,rfl⟩))
        rcases ahead_step y with y | ⟨rfl,rfl⟩
        · exact hg i' j' y
        · exact b
  obtain ⟨hb,a2,a3,a4,a5,rfl⟩:=hs
  exact h4 hb
end
section
variable {P:Program} {w:World} {K:PySem.W.Frag} {mg:Str->Option Value} {base:Heap} {a:Nat->Addr} {d:Nat->FuncData}
def szOk (x sz:D):Bool:=isSqD x && match sz with
  | .int m=>decide ((((itemsD x).getD []).length:Int)=m)
  | _=>true
abbrev ChkT (K:PySem.W.Frag) (ly x sz:D) (Q:DV->Prop) (E:XE'):Prop:=Pl x/\(∀ ds,itemsD x=some ds->ds.length < 2 ^ 60/\∀ r∈ds,Pl r)/\(sz=.non\/∃ m:Int,sz=.int m)/\(szOk x sz=false->E (.ref (He.ga K "InvalidTable")) (abW ly))/\
  (szOk x sz=true->∃ n e,TabL n e x/\EnOk n e/\FirstW n e fun d=>(∃ i j:Nat,d=.tup [.int (i:Int),.int (j:Int)]/\E (.ref (He.ga K "InvalidWay")) (abe ly (.int (i:Int)) (.int (j:Int))))\/(d=.non/\∃ f:Nat->Nat->Rat,(∀ i j,i < n->j < n->ratOf (e i j)=some (f i j))/\Q (.own (.lst ((List.range n).map fun i=>rowX n fun j=>rD (f i j))))))
abbrev acv:List Str:=["layer","rows","size","fault","row","value"]
theorem aaV:FnScope acv ["layer","rows","size"] (defScope aaF):=⟨rfl,rfl,rfl,by decide +kernel,rfl,by decide +kernel,by decide +kernel⟩
theorem aek (T:Tx P K mg base a d):FnG P w K mg base 6 (a aaG) (d aaG) ["layer","rows","size"] (sp3 fun ly x sz Q E=>ChkT K ly x sz Q E):=by
  have G_first_fault:FnG P w K mg base 5 (a aaZ) (d aaZ) ["rows"] (sp1 fun x Q _=>∃ (n:Nat) (e:Nat->Nat->D),TabL n e x/\EnOk n e/\FirstW n e fun d=>Q (.d d)):=afp T
  have G_is_square:FnG P w K mg base 1 (a aby) (d aby) ["value"] (sp1 fun x Q _=>Pl x/\(∀ ds,itemsD x=some ds->ds.length < 2 ^ 60/\∀ r∈ds,Pl r)/\Q (.d (.bl (isSqD x)))):=agX T
  have G_ratio_of:FnG P w K mg base 3 (a abm) (d abm) ["value"] (sp1 fun x Q E=>pRof K x Q E):=aeT T
  refine ala T.F_checked_table aaV (fun cdv A outer s H E hr hg=>(aah (acG (DW.dt (agr (acw (ace (aaf G_is_square (hr.mono (by decide)) hg (tkOf rfl rfl rfl rfl) (agz T) (by rfl) T.m_is_square T.F_is_square.kp (aaa (aac (pv 1)) aab)))) (afM (DW.dt (aid (abl op_notN aeq (aad (pv 2)) acM (nomark _)) (ags (abl (adL hr.units) agJ (aam call_len abI (by rfl) T.n_len PySem.boot_len (aaa (aad (pv 1)) aab)) (aad (pv 2)) (nomark _)))))))) (aai (adm rfl (tkOf rfl rfl rfl rfl) T.x_InvalidTable (hr.mono (by decide)) (by rfl) T.m_InvalidTable (aaa (aac (pv 0)) aab))) abH)
      (aah (abG (i:=3) aaV.nd rfl (Or.inl rfl) (aaf G_first_fault (hr.mono (by decide)) hg (tkOf rfl rfl rfl rfl) (afe T) (by rfl) T.m_first_fault T.F_first_fault.kp (aaa (aac (pv 1)) aab)))
      (aah (acG (abl op_notN aeq (aad (pv 3)) acM (nomark _)) (aai (adm rfl (tkOf rfl rfl rfl rfl) T.x_InvalidWay (hr.mono (by decide)) (by rfl) T.m_InvalidWay (aaa (aac (pv 0)) (aaa (aan ix_seq aag (aad (pv 3)) aae (fun _ _=>rfl)) (aaa (aan ix_seq aag (aad (pv 3)) aae (fun _ _=>rfl)) aab))))) abH)
      (aai (aat (adE (own:=[("row",4)]) rfl aaV.nd (acL (aac (pv 1))) (blkOk_by (own:=[("row",4)]) (N:=acv) (sc:=(defScope aaF)) (by decide +kernel)) (fun _ _ _ _ _=>(aaB (i:=4) aaV.nd rfl (Or.inl rfl))) (fun _ _ _ _ _=>abF) (fun _ _ _ _ _=>(adE (own:=[("value",5)]) rfl aaV.nd (acL (aac (pv 4))) (blkOk_by (own:=[("value",5)]) (N:=acv) (sc:=_) (by kernel_rfl)) (fun _ _ _ _ _=>(aaB (i:=5) aaV.nd rfl (Or.inl rfl))) (fun _ _ _ _ _=>abF) (fun _ _ _ _ _=>(aaf G_ratio_of (hr.mono (by decide)) hg acI (abS T) (by rfl) T.m_ratio_of T.F_ratio_of.kp (aaa (aac (pv 5)) aab)))))))))))) (fun ly x sz Q E h=>?_)
  replace h:ChkT K ly x sz Q E:=h
  obtain ⟨pl,hr,hs,h1,h2⟩:=h
  have hz:szl=16777216:=rfl
  refine abf (fun s=>szOk x sz=true/\s=[some (.d ly),some (.d x),some (.d sz),none,none,none]) (fun N hN=>?_) (fun s hs=>?_)
  · refine ⟨rfl,rfl,_,rfl,pl,hr,?_⟩
    cases c:isSqD x with
    | false=>
      have q:szOk x sz=false:=by unfold szOk;rw [c];rfl
      exact aa7 (brT (brT ⟨rfl,ac3 (h1 q)⟩))
    | true=>
      refine aa7 (brF ?_)
      rcases hs with rfl | ⟨m,rfl⟩
      · have q:szOk x .non=true:=by unfold szOk;rw [c];rfl
        refine ae3 rfl rfl ?_
        exact brF (brF (hN _ ⟨q,rfl⟩))
      · refine ae3 rfl rfl ?_
        refine brT ?_
        obtain ⟨n,e,_,_,tl,ds,ed,el⟩:=alm c
        refine ae2 ed ?_
        refine aen ?_
        have q:szOk x (.int m)=decide ((ds.length:Int)=m):=by unfold szOk;rw [c,ed];rfl
        by_cases y:(ds.length:Int)=m
        · rw [decide_eq_true y] at q ⊢
          exact brF (hN _ ⟨q,rfl⟩)
        · rw [decide_eq_false y] at q ⊢
          exact brT ⟨rfl,ac3 (h1 q)⟩
  obtain ⟨sq,rfl⟩:=hs
  obtain ⟨n,e,tl,tk,hf⟩:=h2 sq
  have l9:=tk.l9
  refine adj (fun d=>(∃ i j:Nat,d=.tup [.int (i:Int),.int (j:Int)]/\E (.ref (He.ga K "InvalidWay")) (abe ly (.int (i:Int)) (.int (j:Int))))\/(d=.non/\∃ f:Nat->Nat->Rat,(∀ i j,i < n->j < n->ratOf (e i j)=some (f i j))/\Q (.own (.lst ((List.range n).map fun i=>rowX n fun j=>rD (f i j)))))) (fun Q hQ=>⟨rfl,rfl,_,rfl,n,e,tl,tk,hf.mono hQ⟩) (fun d hd=>?_)
  rcases hd with ⟨i,j,rfl,he⟩ | ⟨rfl,f,hf,hq⟩
  · refine abf (fun _=>False) (fun N hN=>?_) (fun s hs=>hs.elim)
    refine ae3 rfl rfl ?_
    refine brT ?_
    refine aaY rfl ?_
    refine aaY rfl ?_
    exact ⟨rfl,afT he⟩
  refine abf (fun s=>s=[some (.d ly),some (.d x),some (.d sz),some (.d .non),none,none]) (fun N hN=>?_) (fun s hs=>?_)
  · refine ae3 rfl rfl ?_
    exact brF (hN _ rfl)
  subst hs
  obtain ⟨rs,r1,r2⟩:=tl.rows
  refine ahB r1 ?_
  refine agj rs (fun i=>rowX n fun j=>rD (f i j)) _ (by rw [List.length_range];omega) (fun i hi M A m=>?_) hq
  have hi:=List.mem_range.mp hi
  refine brT ?_
  refine ahB (r2 i hi) ?_
  refine agj (e i) (fun j=>rD (f i j)) _ (by rw [List.length_range];omega) (fun j hj M' A' m'=>?_) m
  have hj:=List.mem_range.mp hj
  refine brT ?_
  exact ⟨rfl,rfl,_,rfl,af8 (tk.pl i j hi hj) (hf i j hi hj) m'⟩
abbrev NmDo (K:PySem.W.Frag) (n:Nat) (ks:List Str) (val:Str->D) (Q:List Str->Prop) (E:XE'):Prop:=ks.Nodup/\ks.length<=60/\(∀ z∈ks,kindD (val z)=true/\z.length<=szl)/\∀ ys:List Str,ys.Perm ks->sortedS ys=true->(∀ z,ys.find? (fun z=>!nameOk z)=some z->E (.ref (He.ga K "InvalidName")) (acE (.str z)))/\(ys.find? (fun z=>!nameOk z)=none->(5 < ks.length->E (.ref (He.ga K "TooMany")) (adU (.str "names") (.int 5)))/\(ks.length<=5->(∀ d,plF val n [] ys=some d->E (.ref (He.ga K "InvalidPlace")) (acp d))/\(plF val n [] ys=none->Q ys)))
abbrev acY:List Str:=["names","size","name","found","other"]
theorem aaS:FnScope acY ["names","size"] (defScope aay):=⟨rfl,rfl,rfl,by decide +kernel,rfl,by decide +kernel,by decide +kernel⟩
theorem adY (T:Tx P K mg base a d):FnG P w K mg base 4 (a aaz) (d aaz) ["names","size"] (sp2 fun x y Q E=>∃ (n:Nat) (ks:List Str) (val:Str->D),x=.dk (kvD ks val)/\y=.int n/\NmDo K n ks val (fun ys=>Q (.d (.dk (kvD ys val)))) E):=by
  have G_is_name:FnG P w K mg base 1 (a acb) (d acb) ["value"] (sp1 fun x Q _=>kindD x=true/\(∀ z,x=.str z->z.length<=szl)/\Q (.d (.bl (nameB x)))):=aiw T
  have G_is_number:FnG P w K mg base 2 (a abz) (d abz) ["value","least","most"] (sp3 fun x lo hi Q _=>kindD x=true/\∃ l m:Int,lo=.int l/\hi=.int m/\Q (.d (.bl (numD l m x)))):=agY T
  refine ae6 T.F_checked_places aaS (fun cdv A outer s H E hr hg=>(aah (adh (passes_of rfl) rfl (acL (aam (call_sortedD rfl) aeL (by rfl) T.n_sorted (by decide +kernel) (aaa (aad (pv 0)) aab))) (aaB (i:=2) aaS.nd rfl (Or.inl rfl)) (aai (acG (acw (ace (aaf G_is_name (hr.mono (by decide)) hg (tkOf rfl rfl rfl rfl) (ahM T) (by rfl) T.m_is_name T.F_is_name.kp (aaa (aac (pv 2)) aab)))) (aai (adm rfl (tkOf rfl rfl rfl rfl) T.x_InvalidName (hr.mono (by decide)) (by rfl) T.m_InvalidName (aaa (aac (pv 2)) aab))) abH)))
      (aah (acG (abl op_gt (aaM fun _ _ _=>.bl _) (aam aiJ aiV (by rfl) T.n_len PySem.boot_len (aaa (aad (pv 0)) aab)) (adR (by rfl) T.c_MOST_NAMED) (nomark _)) (aai (adm rfl (tkOf rfl rfl rfl rfl) T.x_TooMany (hr.mono (by decide)) (by rfl) T.m_TooMany (aaa aa3 (aaa (adR (by rfl) T.c_MOST_NAMED) aab)))) abH)
      (aah (abG (i:=3) aaS.nd rfl (Or.inr rfl) amo)
      (aah (adh (passes_of rfl) rfl (acL (aam (call_sortedD rfl) aeL (by rfl) T.n_sorted (by decide +kernel) (aaa (aad (pv 0)) aab))) (aaB (i:=2) aaS.nd rfl (Or.inl rfl)) (aah (acG (DW.dt (agr (acw (ace (aaf G_is_number (hr.mono (by decide)) hg (tkOf rfl rfl rfl rfl) (agA T) (by rfl) T.m_is_number T.F_is_number.kp (aaa (ae8 hr.units (aad (pv 0)) (aac (pv 2))) (aaa aae (aaa (anl (aac (pv 1)) aae) aab)))))) (afM (abl ah0 akT (ae8 hr.units (aad (pv 0)) (aac (pv 2))) (amp (i:=3) (adE (own:=[("other",4)]) rfl aaS.nd (aml (aac (pv 3))) (blkOk_by (own:=[("other",4)]) (N:=acY) (sc:=(defScope aay)) (by decide +kernel)) (fun _ _ _ _ _=>(aaB (i:=4) aaS.nd rfl (Or.inl rfl))) (fun _ _ _ _ _=>abF) (fun _ _ _ _ _=>(ae8 hr.units (aad (pv 3)) (aac (pv 4)))))) (by rfl))))) (aai (adm rfl (tkOf rfl rfl rfl rfl) T.x_InvalidPlace (hr.mono (by decide)) (by rfl) T.m_InvalidPlace (aaa (ae8 hr.units (aad (pv 0)) (aac (pv 2))) aab))) abH)
      (aai (amk hr.units (pv 3) (aac (pv 2)) (ae8 hr.units (aad (pv 0)) (aac (pv 2)))))))
      (aai (ami (pv 3)))))))) (fun x y Q E h=>?_)
  replace h:∃ (n:Nat) (ks:List Str) (val:Str->D),x=.dk (kvD ks val)/\y=.int n/\NmDo K n ks val (fun ys=>Q (.d (.dk (kvD ys val)))) E:=h
  obtain ⟨n,ks,val,rfl,rfl,nd,l60,hk,h⟩:=h
  have hz:szl=16777216:=rfl
  refine abf (fun s=>∃ a2 ys,ys.Perm ks/\sortedS ys=true/\ys.find? (fun z=>!nameOk z)=none/\s=[some (.d (.dk (kvD ks val))),some (.d (.int n)),a2,none,none]) (fun N hN=>?_) (fun s hs=>?_)
  · refine ahz rfl (agm ks val) (by omega) (fun ys hp hso=>?_)
    refine acF ?_
    refine adQ (fun r s=>∃ (dn rest:List Str) (a2:Option DV),ys=dn++rest/\(∀ z∈dn,nameOk z=true)/\r=rest.map .str/\s=[some (.d (.dk (kvD ks val))),some (.d (.int n)),a2,none,none]) (fun N1 d r s hN1 hs=>?_) (fun s hs=>?_) _ _ ⟨[],ys,_,rfl,(fun z h=>by cases h),rfl,rfl⟩
    · obtain ⟨dn,rest,a2,e1,hd,e2,rfl⟩:=hs
      cases rest with
      | nil=>cases e2
      | cons z rest=>
        rw [List.map_cons] at e2
        cases e2
        have mz:z∈ks:=hp.mem_iff.mp (by rw [e1];simp)
        refine ⟨rfl,rfl,_,rfl,rfl,(fun y e=>by cases e;exact (hk z mz).2),?_⟩
        cases en:nameOk z with
        | true=>
          have e3:nameB (.str z)=true:=en
          rw [e3]
          refine aa7 (brF (hN1 _ ⟨dn++[z],rest,_,by rw [e1];simp,fun y hy=>?_,rfl,rfl⟩))
          rcases List.mem_append.mp hy with hy | hy
          · exact hd y hy
          · rw [List.mem_singleton.mp hy];exact en
        | false=>
          have e3:nameB (.str z)=false:=en
          rw [e3]
          refine aa7 (brT ⟨rfl,afk ((h ys hp hso).1 z ?_)⟩)
          rw [e1,List.find?_append,List.find?_eq_none.mpr (fun y hy=>by rw [hd y hy];simp)]
          show (List.find? (fun z=>!nameOk z) (z::rest))=some z
          rw [List.find?_cons_of_pos (by rw [en];rfl)]
    · obtain ⟨dn,rest,a2,e1,hd,e2,rfl⟩:=hs
      have:rest=[]:=by
        cases rest with
        | nil=>rfl
        | cons _ _=>cases e2
      subst this
      rw [List.append_nil] at e1
      subst e1
      exact hN _ ⟨_,_,hp,hso,List.find?_eq_none.mpr (fun y hy=>by rw [hd y hy];simp),rfl⟩
  obtain ⟨a2,ys,hp,hso,hno,rfl⟩:=hs
  have h2:=(h ys hp hso).2 hno
  refine abf (fun s=>ks.length<=5/\s=[some (.d (.dk (kvD ks val))),some (.d (.int n)),a2,none,none]) (fun N hN=>?_) (fun s hs=>?_)
  · refine alX rfl ?_
    rw [ahD]
    refine acj ?_
    refine br (fun q=>?_) (fun q=>?_)
    · exact ⟨rfl,aip (h2.1 (by have:=of_decide_eq_true q;omega))⟩
    · exact hN _ ⟨by have:=of_decide_eq_false q;omega,rfl⟩
  obtain ⟨l5,rfl⟩:=hs
  obtain ⟨h3,h4⟩:=h2.2 l5
  refine abf (fun s=>s=[some (.d (.dk (kvD ks val))),some (.d (.int n)),a2,some (.own (.dk [])),none]) (fun N hN=>hN _ rfl) (fun s hs=>?_)
  subst hs
  have vz:∀ z∈ks,valD (kvD ks val) (.inr z)=some (val z):=fun z hz=>by rw [ahC,if_pos hz]
  refine abf (fun s=>plF val n [] ys=none/\∃ a2:Option DV,s=[some (.d (.dk (kvD ks val))),some (.d (.int n)),a2,some (.own (.dk (kvD ys val))),none]) (fun N hN=>?_) (fun s hs=>?_)
  · refine ahz rfl (agm ks val) (by omega) (fun ys' hp' hso'=>?_)
    have ey:ys'=ys:=aiO hso' hso (hp'.trans hp.symm)
    subst ey
    refine acF ?_
    have yl:ys'.length=ks.length:=hp.length_eq
    have ynd:ys'.Nodup:=hp.nodup_iff.mpr nd
    refine adQ (fun r s=>∃ (dn rest:List Str) (a2:Option DV),ys'=dn++rest/\plF val n [] ys'=plF val n (dn.map val) rest/\(∀ z∈dn,flatD (val z)=true)/\r=rest.map .str/\s=[some (.d (.dk (kvD ks val))),some (.d (.int n)),a2,some (.own (.dk (kvD dn val))),none]) (fun N1 d r s hN1 hs=>?_) (fun s hs=>?_) _ _ ⟨[],ys',_,rfl,rfl,(fun z h=>by cases h),rfl,rfl⟩
    · obtain ⟨dn,rest,a2,e1,ep,fl,e2,rfl⟩:=hs
      cases rest with
      | nil=>cases e2
      | cons z rest=>
        rw [List.map_cons] at e2
        cases e2
        have mz:z∈ks:=hp.mem_iff.mp (by rw [e1];simp)
        have nz:z∉dn:=fun m=>by
          rw [e1] at ynd
          exact (List.nodup_append.mp ynd).2.2 z m z (List.mem_cons_self ..) rfl
        have ld:dn.length<=5:=by
          have:=congrArg List.length e1
          rw [List.length_append,List.length_cons] at this
          omega
        refine abf (fun s=>numD 0 ((n:Int) - 1) (val z)=true/\inF (val z) (dn.map val)=false/\s=[some (.d (.dk (kvD ks val))),some (.d (.int n)),some (.d (.str z)),some (.own (.dk (kvD dn val))),none]) (fun N2 hN2=>?_) (fun s hs=>?_)
        · refine afK rfl rfl (vz z mz) ?_
          refine acj ?_
          refine ⟨rfl,rfl,_,_,_,rfl,(hk z mz).1,0,(n:Int) - 1,rfl,rfl,?_⟩
          cases e3:numD 0 ((n:Int) - 1) (val z) with
          | false=>
            refine aa7 (brT (brT ?_))
            refine afK rfl rfl (vz z mz) ?_
            exact ⟨rfl,ac4 (h3 _ (by rw [ep,ajh (.inl e3)]))⟩
          | true=>
            have fz:flatD (val z)=true:=by
              cases ev:val z with
              | int i=>rfl
              | _=>rw [ev] at e3;cases e3
            refine aa7 (brF ?_)
            refine afK rfl rfl (vz z mz) ?_
            refine ⟨kvD dn val,rfl,?_⟩
            refine alY ?_
            refine agk (fun d=>match d with | .str y=>val y | _=>.non) _ (by rw [List.length_map,ahD];omega) (fun d hd M A m=>?_) ?_
            · obtain ⟨kv,hk,rfl⟩:=List.mem_map.mp hd
              obtain ⟨y,hy,rfl⟩:=List.mem_map.mp hk
              refine brT ?_
              exact afK rfl rfl (show valD (kvD dn val) (.inr y)=some (val y) by rw [ahC,if_pos hy]) m
            · refine ⟨rfl,trivial,?_⟩
              have e4:(((kvD dn val).map fun kv=>keyD kv.1).map fun d=>match d with | .str y=>val y | _=>.non)=dn.map val:=by
                unfold kvD
                rw [List.map_map,List.map_map];rfl
              rw [e4]
              refine l_inL (ds:=dn.map val) rfl fz (by rw [List.all_map];exact List.all_eq_true.mpr fun y hy=>fl y hy) ?_
              cases e5:inF (val z) (dn.map val) with
              | false=>exact brF (hN2 _ ⟨e3,e5,rfl⟩)
              | true=>
                refine brT ?_
                refine afK rfl rfl (vz z mz) ?_
                exact ⟨rfl,ac4 (h3 _ (by rw [ep,ajh (.inr e5)]))⟩
        obtain ⟨e3,e5,rfl⟩:=hs
        have fz:flatD (val z)=true:=by
          cases ev:val z with
          | int i=>rfl
          | _=>rw [ev] at e3;cases e3
        refine afK rfl rfl (vz z mz) ?_
        refine ⟨⟨_,rfl⟩,by rw [ahD];omega,hN1 _ ⟨dn++[z],rest,some (.d (.str z)),by rw [e1];simp,?_,(fun y hy=>?_),rfl,?_⟩⟩
        · rw [ep,alG e3 e5,List.map_append];rfl
        · rcases List.mem_append.mp hy with hy | hy
          · exact fl y hy
          · rw [List.mem_singleton.mp hy];exact fz
        rw [ajc (show valD (kvD dn val) (.inr z)=none by rw [ahC,if_neg nz])]
        rw [al4];rfl
    · obtain ⟨dn,rest,a2,e1,ep,fl,e2,rfl⟩:=hs
      have:rest=[]:=by
        cases rest with
        | nil=>rfl
        | cons _ _=>cases e2
      subst this
      rw [List.append_nil] at e1
      subst e1
      exact hN _ ⟨ep,_,rfl⟩
  obtain ⟨ep,a2,rfl⟩:=hs
  exact ⟨_,rfl,h4 ep⟩
abbrev wld (K:PySem.W.Frag) (tabs:List D) (nm:List (Key × D)):D:=.ins (He.ga K "World") [("own_tables",.lst tabs),("own_names",.dk nm)]
abbrev tabL (n:Nat) (f:Nat->Nat->Rat):D:=.lst ((List.range n).map fun i=>rowX n fun j=>rD (f i j))
theorem ChkT.mono {K:PySem.W.Frag} {ly x sz:D} {Q Q':DV->Prop} {E:XE'} (h:ChkT K ly x sz Q E) (m:∀ v,Q v->Q' v):ChkT K ly x sz Q' E:=
  ⟨h.1,h.2.1,h.2.2.1,h.2.2.2.1,fun q=>by
    obtain ⟨n,e,a,b,c⟩:=h.2.2.2.2 q
    exact ⟨n,e,a,b,c.mono fun d hd=>hd.imp id fun ⟨z,f,hf,hq⟩=>⟨z,f,hf,m _ hq⟩⟩⟩
abbrev WldT (K:PySem.W.Frag) (ks:List Str) (val:Str->D) (ft ct:D) (Q:List (Str × D)->Prop) (E:XE'):Prop:=ChkT K (.str "foot") ft .non (fun v=>∃ (n:Nat) (f:Nat->Nat->Rat) (ds:List D),v=.own (.lst ((List.range n).map fun i=>rowX n fun j=>rD (f i j)))/\itemsD ft=some ds/\ds.length=n/\∃ b,isNonD ct=some b/\
  (b=true->NmDo K n ks val (fun ys=>Q [("own_tables",.lst [tabL n f]),("own_names",.dk (kvD ys val))]) E)/\
  (b=false->ChkT K (.str "cart") ct (.int (n:Int)) (fun v2=>∃ g:Nat->Nat->Rat,v2=.own (.lst ((List.range n).map fun i=>rowX n fun j=>rD (g i j)))/\NmDo K n ks val (fun ys=>Q [("own_tables",.lst [tabL n f,tabL n g]),("own_names",.dk (kvD ys val))]) E) E)) E
theorem aiU {te:TD} {u:TDS} {E:EndsD} {sl:DSt} {i:Nat} (R:List D->Prop) (h:∀ Q:DV->DSt->Prop,(∀ ds,R ds->Q (.own (.lst ds)) sl)->te sl Q E.xc) (q:∀ ds,R ds->u E (sl.set i (some (.own (.lst ds))))):dSeq (dSet te i) u E sl:=h _ q
abbrev aem:List Str:=["self","names","foot","cart","tables"]
theorem acJ:FnScope aem ["self","names","foot","cart"] (defScope aaK):=⟨rfl,rfl,rfl,by decide +kernel,rfl,by decide +kernel,by decide +kernel⟩
theorem adZ (T:Tx P K mg base a d):FnR P w K mg base 7 (a aas) (d aas) ["self","names","foot","cart"] (upIn K (He.ga K "World") fun args Q E=>∃ nm:D,∃ ft:D,∃ ct:D,args=[.d nm,.d ft,.d ct]/\(∃ (ks:List Str) (val:Str->D),nm=.dk (kvD ks val)/\WldT K ks val ft ct Q E)):=by
  have G_checked_places:FnG P w K mg base 4 (a aaz) (d aaz) ["names","size"] (sp2 fun x y Q E=>∃ (n:Nat) (ks:List Str) (val:Str->D),x=.dk (kvD ks val)/\y=.int n/\NmDo K n ks val (fun ys=>Q (.d (.dk (kvD ys val)))) E):=adY T
  have G_checked_table:FnG P w K mg base 6 (a aaG) (d aaG) ["layer","rows","size"] (sp3 fun ly x sz Q E=>ChkT K ly x sz Q E):=aek T
  refine ame T.F_World___init__ acJ (by rintro _ Q E ⟨nm,ft,ct,rfl,h⟩;rfl) (by rintro _ Q E ⟨nm,ft,ct,rfl,h⟩ x hx;simp only [List.mem_cons,List.not_mem_nil,or_false] at hx;rcases hx with rfl | rfl | rfl<;>first | exact .inl ⟨_,rfl⟩ | assumption) (fun cdv A outer s H E hr hg=>(aah (abG (i:=4) acJ.nd rfl (Or.inl rfl) (abd (aaa (aaf G_checked_table (hr.mono (by decide)) hg (tkOf rfl rfl rfl rfl) (acO T) (by rfl) T.m_checked_table T.F_checked_table.kp (aaa aa3 (aaa (aac (pv 2)) (aaa acM aab)))) aab)))
      (aah (acG (abl op_notN aeq (aad (pv 3)) acM (nomark _)) (aai (ajR (pv 4) (aaf G_checked_table (hr.mono (by decide)) hg (tkOf rfl rfl rfl rfl) (acO T) (by rfl) T.m_checked_table T.F_checked_table.kp (aaa aa3 (aaa (aac (pv 3)) (aaa (aam call_len abI (by rfl) T.n_len PySem.boot_len (aaa (aad (pv 2)) aab)) aab)))))) abH)
      (aah (alb (K:=K) (pv 0) (aac (pv 4)))
      (aai (alb (K:=K) (pv 0) (aaf G_checked_places (hr.mono (by decide)) hg (tkOf rfl rfl rfl rfl) (adS T) (by rfl) T.m_checked_places T.F_checked_places.kp (aaa (aac (pv 1)) (aaa (aam call_len abI (by rfl) T.n_len PySem.boot_len (aaa (aad (pv 2)) aab)) aab))))))))) (fun args Q E xx h=>?_)
  obtain ⟨nm,ft,ct,rfl,h⟩:=h
  obtain ⟨ks,val,rfl,h⟩:=h
  have hz:szl=16777216:=rfl
  refine aiU (fun ts=>∃ (f:Nat->Nat->Rat) (ds:List D),ts=[tabL ds.length f]/\itemsD ft=some ds/\∃ b,isNonD ct=some b/\
    (b=true->NmDo K ds.length ks val (fun ys=>Q [("own_tables",.lst [tabL ds.length f]),("own_names",.dk (kvD ys val))]) E)/\
    (b=false->ChkT K (.str "cart") ct (.int (ds.length:Int)) (fun v2=>∃ g:Nat->Nat->Rat,v2=.own (.lst ((List.range ds.length).map fun i=>rowX ds.length fun j=>rD (g i j)))/\NmDo K ds.length ks val (fun ys=>Q [("own_tables",.lst [tabL ds.length f,tabL ds.length g]),("own_names",.dk (kvD ys val))]) E) E)) (fun Q hQ=>?_) (fun ts hts=>?_)
  · refine ⟨rfl,rfl,_,_,_,rfl,ChkT.mono h fun v hv=>?_⟩
    obtain ⟨n,f,ds,rfl,ei,rfl,b,eb,hb1,hb2⟩:=hv
    exact aca rfl rfl (hQ _ ⟨f,ds,rfl,ei,b,eb,hb1,hb2⟩)
  obtain ⟨f,ds,rfl,ei,b,eb,hb1,hb2⟩:=hts
  refine abf (fun s=>∃ ts:List D,NmDo K ds.length ks val (fun ys=>Q [("own_tables",.lst ts),("own_names",.dk (kvD ys val))]) E/\s=[some (.own (.ins xx (He.ga K "World") [])),some (.d (.dk (kvD ks val))),some (.d ft),some (.d ct),some (.own (.lst ts))]) (fun N hN=>?_) (fun s hs=>?_)
  · refine ae3 (x:=.d ct) rfl eb ?_
    cases b with
    | true=>exact brF (hN _ ⟨_,hb1 rfl,rfl⟩)
    | false=>
      refine brT ?_
      refine ⟨⟨_,rfl⟩,?_⟩
      refine ae2 ei ?_
      refine ⟨rfl,rfl,_,_,_,rfl,ChkT.mono (hb2 rfl) fun v hv=>?_⟩
      obtain ⟨g,rfl,hg⟩:=hv
      exact ⟨by show 1 < szl;omega,hN _ ⟨_,hg,rfl⟩⟩
  obtain ⟨ts,nk,rfl⟩:=hs
  refine amf (fs:=[]) (s':=[some (.own (.ins xx (He.ga K "World") [])),some (.d (.dk (kvD ks val))),some (.d ft),some (.d ct),some (.d (.lst ts))]) (.lst ts) T.cl_World T.na_World_own_tables (fun Q hQ=>hQ _ rfl) ?_
  refine ae2 ei ?_
  obtain ⟨nd,l60,hk,nh⟩:=nk
  refine ⟨rfl,rfl,_,_,rfl,ds.length,ks,val,rfl,rfl,nd,l60,hk,fun ys hp hso=>?_⟩
  obtain ⟨h1,h2⟩:=nh ys hp hso
  refine ⟨h1,fun hno=>⟨(h2 hno).1,fun l5=>⟨((h2 hno).2 l5).1,fun hno2=>?_⟩⟩⟩
  exact ⟨T.cl_World,T.na_World_own_names,by show 1 < 1000;decide,_,rfl,((h2 hno).2 l5).2 hno2⟩
end
section
variable {P:Program} {w:World} {K:PySem.W.Frag} {mg:Str->Option Value} {base:Heap} {a:Nat->Addr} {d:Nat->FuncData}
abbrev ag4:List Str:=["self"]
theorem af4:FnScope ag4 ["self"] (defScope abv):=⟨rfl,rfl,rfl,by decide +kernel,rfl,by decide +kernel,by decide +kernel⟩
theorem adF (T:Tx P K mg base a d):FnZ P w K mg base 1 (a aaA) (d aaA) ["self"] (sp1 fun me Q _=>∃ (n:Nat) (f:Nat->Nat->Rat) (tabs:List D) (nm:List (Key × D)),me=wld K (tabL n f::tabs) nm/\Q (.d (.int n))):=by
  refine aex T.F_World_size af4 (fun cdv A outer s H E hr=>(aai (aat (aam call_len abI (by rfl) T.n_len PySem.boot_len (aaa (aan ix_seq aag (ajW (K:=K) (aad (pv 0))) aae (fun _ _=>rfl)) aab))))) (fun me Q E h=>?_)
  replace h:∃ (n:Nat) (f:Nat->Nat->Rat) (tabs:List D) (nm:List (Key × D)),me=wld K (tabL n f::tabs) nm/\Q (.d (.int n)):=h
  obtain ⟨n,f,tabs,nm,rfl,h⟩:=h
  refine alV T.cl_World T.na_World_own_tables rfl ?_
  refine agl rfl amu ?_
  refine aed (ds:=(List.range n).map fun i=>rowX n fun j=>rD (f i j)) rfl ?_
  rw [List.length_map,List.length_range];exact h
theorem agc (T:Tx P K mg base a d):FnG P w K mg base 1 (a aaA) (d aaA) ["self"] (sp1 fun me Q _=>∃ (n:Nat) (f:Nat->Nat->Rat) (tabs:List D) (nm:List (Key × D)),me=wld K (tabL n f::tabs) nm/\Q (.d (.int n))):=(adF T).g
abbrev afu:List Str:=["self"]
theorem aeN:FnScope afu ["self"] (defScope aa4):=⟨rfl,rfl,rfl,by decide +kernel,rfl,by decide +kernel,by decide +kernel⟩
theorem aew (T:Tx P K mg base a d):FnZ P w K mg base 1 (a aaR) (d aaR) ["self"] (sp1 fun me Q _=>∃ (tabs:List D) (nm:List (Key × D)),me=wld K tabs nm/\Q (.d (.int tabs.length))):=by
  refine aex T.F_World_layers aeN (fun cdv A outer s H E hr=>(aai (aat (aam call_len abI (by rfl) T.n_len PySem.boot_len (aaa (ajW (K:=K) (aad (pv 0))) aab))))) (fun me Q E h=>?_)
  replace h:∃ (tabs:List D) (nm:List (Key × D)),me=wld K tabs nm/\Q (.d (.int tabs.length)):=h
  obtain ⟨tabs,nm,rfl,h⟩:=h
  refine alV T.cl_World T.na_World_own_tables rfl ?_
  exact aed rfl h
abbrev agh:List Str:=["self"]
theorem afo:FnScope agh ["self"] (defScope abk):=⟨rfl,rfl,rfl,by decide +kernel,rfl,by decide +kernel,by decide +kernel⟩
theorem afi (T:Tx P K mg base a d):FnZ P w K mg base 1 (a aa2) (d aa2) ["self"] (sp1 fun me Q _=>∃ (tabs:List D) (ks:List Str) (val:Str->D),me=wld K tabs (kvD ks val)/\ks.length < 64/\∀ ys:List Str,ys.Perm ks->sortedS ys=true->Q (.own (.lst (ys.map .str)))):=by
  refine aex T.F_World_names afo (fun cdv A outer s H E hr=>(aai (aat (aam (call_sortedD rfl) aeL (by rfl) T.n_sorted (by decide +kernel) (aaa (ajW (K:=K) (aad (pv 0))) aab))))) (fun me Q E h=>?_)
  replace h:∃ (tabs:List D) (ks:List Str) (val:Str->D),me=wld K tabs (kvD ks val)/\ks.length < 64/\∀ ys:List Str,ys.Perm ks->sortedS ys=true->Q (.own (.lst (ys.map .str))):=h
  obtain ⟨tabs,ks,val,rfl,hl,h⟩:=h
  refine alV T.cl_World T.na_World_own_names rfl ?_
  exact ahz rfl (agm ks val) hl (fun ys hp hs=>h ys hp hs)
def nmT (ns:List Str):Str:=if ns=[] then "-" else Txt.join " " ns
abbrev ag1:List Str:=["names"]
theorem af3:FnScope ag1 ["names"] (defScope abr):=⟨rfl,rfl,rfl,by decide +kernel,rfl,by decide +kernel,by decide +kernel⟩
theorem afR (T:Tx P K mg base a d):FnZ P w K mg base 2 (a aba) (d aba) ["names"] (sp1 fun x Q E=>∃ ns:List Str,x=.lst (ns.map .str)/\(∀ z∈ns,WOk z)/\ns.length<=100/\Q (.d (.str (nmT ns)))):=by
  refine aex T.F_names_text af3 (fun cdv A outer s H E hr=>(aai (aat (aeg (abl op_gt (aaM fun _ _ _=>.bl _) (aam call_len abI (by rfl) T.n_len PySem.boot_len (aaa (aad (pv 0)) aab)) aae (nomark _)) (amm aa3 (aad (pv 0))) aa3)))) (fun x Q E h=>?_)
  replace h:∃ ns:List Str,x=.lst (ns.map .str)/\(∀ z∈ns,WOk z)/\ns.length<=100/\Q (.d (.str (nmT ns))):=h
  obtain ⟨ns,rfl,hw,hl,h⟩:=h
  unfold nmT at h
  refine aed rfl ?_
  rw [List.length_map]
  refine acj (br (fun z=>?_) (fun z=>?_))
  · have z':=of_decide_eq_true z
    rw [if_neg (fun c=>by rw [c] at z';exact absurd z' (by decide))] at h
    exact ⟨⟨_,rfl⟩,alZ rfl hw (by omega) h⟩
  · have z':=of_decide_eq_false z
    have e:ns=[]:=by
      cases ns with
      | nil=>rfl
      | cons=>exact absurd (by simp only [List.length_cons];omega) z'
    rw [if_pos e] at h
    exact h
abbrev rpW (ys:List Str) (n m:Nat):Str:="World("++nmT ys++", "++toString (n:Int)++" places, "++toString (m:Int)++" layers)"
theorem alP {ns:List Str} (hw:∀ z∈ns,WOk z) (hl:ns.length<=100):(nmT ns).length<=3100:=by
  unfold nmT
  split
  · decide
  · have:=(al7 hw).2;omega
abbrev ael:List Str:=["self"]
theorem adW:FnScope ael ["self"] (defScope aaJ):=⟨rfl,rfl,rfl,by decide +kernel,rfl,by decide +kernel,by decide +kernel⟩
theorem acH (T:Tx P K mg base a d):FnZ P w K mg base 4 (a aaW) (d aaW) ["self"] (sp1 fun me Q _=>∃ (n:Nat) (f:Nat->Nat->Rat) (tabs:List D) (ks:List Str) (val:Str->D),me=wld K (tabL n f::tabs) (kvD ks val)/\n<=9/\tabs.length<=1/\ks.length<=9/\(∀ z∈ks,WOk z)/\∀ ys:List Str,ys.Perm ks->sortedS ys=true->Q (.d (.str (rpW ys n (tabs.length + 1))))):=by
  have Z_World_layers:FnZ P w K mg base 1 (a aaR) (d aaR) ["self"] (sp1 fun me Q _=>∃ (tabs:List D) (nm:List (Key × D)),me=wld K tabs nm/\Q (.d (.int tabs.length))):=aew T
  have Z_World_names:FnZ P w K mg base 1 (a aa2) (d aa2) ["self"] (sp1 fun me Q _=>∃ (tabs:List D) (ks:List Str) (val:Str->D),me=wld K tabs (kvD ks val)/\ks.length < 64/\∀ ys:List Str,ys.Perm ks->sortedS ys=true->Q (.own (.lst (ys.map .str)))):=afi T
  have Z_World_size:FnZ P w K mg base 1 (a aaA) (d aaA) ["self"] (sp1 fun me Q _=>∃ (n:Nat) (f:Nat->Nat->Rat) (tabs:List D) (nm:List (Key × D)),me=wld K (tabL n f::tabs) nm/\Q (.d (.int n))):=adF T
  have Z_names_text:FnZ P w K mg base 2 (a aba) (d aba) ["names"] (sp1 fun x Q E=>∃ ns:List Str,x=.lst (ns.map .str)/\(∀ z∈ns,WOk z)/\ns.length<=100/\Q (.d (.str (nmT ns)))):=afR T
  refine aex T.F_World___repr__ adW (fun cdv A outer s H E hr=>(aai (aat (amn (.cons aa3 (.cons (ajV (akJ Z_names_text (hr.mono (by decide)) (tkOf rfl rfl rfl rfl) (afy T) (by rfl) T.m_names_text T.F_names_text.kp (aaa (ajU (aac (pv 0)) T.cl_World T.me_World_names Z_World_names (hr.mono (by decide)) (tkOf rfl rfl rfl rfl) (afh T)) aab))) (.cons aa3 (.cons (ajV (aig (aac (pv 0)) T.cl_World T.pr_World_size Z_World_size (hr.mono (by decide)) (acm T))) (.cons aa3 (.cons (ajV (aig (aac (pv 0)) T.cl_World T.pr_World_layers Z_World_layers (hr.mono (by decide)) (afb T))) (.cons aa3 .nil))))))))))) (fun me Q E h=>?_)
  replace h:∃ (n:Nat) (f:Nat->Nat->Rat) (tabs:List D) (ks:List Str) (val:Str->D),me=wld K (tabL n f::tabs) (kvD ks val)/\n<=9/\tabs.length<=1/\ks.length<=9/\(∀ z∈ks,WOk z)/\∀ ys:List Str,ys.Perm ks->sortedS ys=true->Q (.d (.str (rpW ys n (tabs.length + 1)))):=h
  obtain ⟨n,f,tabs,ks,val,rfl,n9,t1,kl,hw,h⟩:=h
  have hz:szl=16777216:=rfl
  refine ⟨by rw [ac5];decide,?_⟩
  refine ⟨rfl,rfl,rfl,rfl,_,rfl,tabL n f::tabs,ks,val,rfl,by omega,fun ys hp hs=>?_⟩
  have hwy:∀ z∈ys,WOk z:=fun z hz=>hw z (hp.mem_iff.mp hz)
  have yl:ys.length<=9:=by rw [hp.length_eq];exact kl
  have nl:=alP hwy (by omega)
  have s1:("World(":Str).length=6:=rfl
  have s2:(", ":Str).length=2:=rfl
  have s3:(" places, ":Str).length=9:=rfl
  have s4:(" layers)":Str).length=8:=rfl
  have hn:=ad1 (b:=20) (i:=(n:Int)) (by omega)
  have hm:=ad1 (b:=20) (i:=((tabs.length + 1:Nat):Int)) (by omega)
  refine ⟨rfl,rfl,_,rfl,ys,rfl,hwy,by omega,?_⟩
  refine am6 (by omega) ?_
  refine ⟨by rw [ac5,aak];omega,?_⟩
  refine ⟨by rw [ac5,aak,aak];omega,?_⟩
  refine ⟨rfl,_,rfl,n,f,tabs,_,rfl,?_⟩
  refine ak5 (lg20 (by omega)) ?_
  refine ⟨by rw [ac5,aak,aak,aak];omega,?_⟩
  refine ⟨by rw [ac5,aak,aak,aak,aak];omega,?_⟩
  refine ⟨rfl,_,rfl,tabL n f::tabs,_,rfl,?_⟩
  refine ak5 (lg20 (by rw [List.length_cons];omega)) ?_
  rw [List.length_cons]
  refine ⟨by rw [ac5,aak,aak,aak,aak,aak];omega,?_⟩
  refine ⟨by rw [ac5,aak,aak,aak,aak,aak,aak];omega,?_⟩
  rw [ac5]
  exact h ys hp hs
abbrev aiC:List Str:=["_law_top","_law_bottom","_law_one","_law_other"]
theorem adA:FnScope aiC ["_law_top","_law_bottom"] (defScope ab3):=⟨rfl,rfl,rfl,by decide +kernel,rfl,by decide +kernel,by decide +kernel⟩
theorem aeV (T:Tx P K mg base a d):FnG P w K mg base 1 (a abo) (d abo) ["_law_top","_law_bottom"] (sp2 fun x y Q _=>∃ n m:Int,x=.int n/\y=.int m/\0 < m/\m.natAbs < 2 ^ 8000/\Q (.d (rD (Rat.divInt n m)))):=by
  refine ae6 T.F__law_low adA (fun cdv A outer s H E hr hg=>(aah (ajQ (i:=2) (j:=3) rfl adA.nd rfl rfl (by decide) rfl rfl (aaa (aam call_abs alw (by rfl) T.n_abs (by decide +kernel) (aaa (aad (pv 0)) aab)) (aaa (aac (pv 1)) aab)) (by rfl))
      (aah (akF (passes_of rfl) (abl op_gt (aaM fun _ _ _=>.bl _) (aad (pv 3)) aae (nomark _)) (aai (ajQ (i:=2) (j:=3) rfl adA.nd rfl rfl (by decide) rfl rfl (aaa (aac (pv 3)) (aaa (ano (aeu call_int1 als (by rfl) T.n_int (by decide +kernel) (aaa (aad (pv 2)) aab)) (aac (pv 3))) aab)) (by rfl))))
      (aai (aat (aaN (aaa (agv (aac (pv 0)) (aac (pv 2))) (aaa (agv (aac (pv 1)) (aac (pv 2))) aab)))))))) (fun x y Q E h=>?_)
  replace h:∃ n m:Int,x=.int n/\y=.int m/\0 < m/\m.natAbs < 2 ^ 8000/\Q (.d (rD (Rat.divInt n m))):=h
  obtain ⟨n,m,rfl,rfl,h1,h2,h⟩:=h
  have ea:(if n < 0 then -n else n)=((n.natAbs:Nat):Int):=by split<;>omega
  refine alH (.int (n.natAbs:Nat)) (.int m) (s':=[some (.d (.int n)),some (.d (.int m)),none,none]) (fun Q hQ=>?_) ?_
  · refine l_abs ?_
    rw [ea]
    exact hQ
  refine abf (fun s=>s=[some (.d (.int n)),some (.d (.int m)),some (.d (.int (gcI n m))),some (.d (.int 0))]) (fun N hN=>?_) (fun s hs=>?_)
  · refine ⟨fun k s=>∃ x:Nat,s=[some (.d (.int n)),some (.d (.int m)),some (.d (.int (x:Int))),some (.d (.int (k:Int)))]/\Nat.gcd x k=Nat.gcd n.natAbs m.natAbs,⟨m.natAbs,n.natAbs,?_,rfl⟩,?_⟩
    · have:((m.natAbs:Nat):Int)=m:=by omega
      rw [this];rfl
    · rintro k s ⟨x,rfl,hg⟩
      refine acj ?_
      refine br (fun hk=>?_) (fun hk=>?_)
      · have hk':(0:Int) < (k:Int):=of_decide_eq_true hk
        refine l_int ?_
        refine afJ hk' ?_
        refine ⟨x % k,Nat.mod_lt _ (by omega),k,?_,?_⟩
        · show [_,_,_,some (DV.d (.int ((x:Int) % (k:Int))))]=_
          rw [<- Int.natCast_emod]
        · rw [<- hg,Nat.gcd_comm x k,Nat.gcd_rec k x,Nat.gcd_comm]
      · have hk':¬ (0:Int) < (k:Int):=of_decide_eq_false hk
        have k0:k=0:=by omega
        subst k0
        refine hN _ ?_
        rw [Nat.gcd_zero_right] at hg
        rw [hg];rfl
  · subst hs
    refine afJ (ago h1 h2) ?_
    refine afJ (ago (n:=n) h1 h2) ?_
    rw [ai9 h1] at h
    exact abw rfl rfl h
abbrev ahu:List Str:=["_law_one","_law_other"]
theorem agO:FnScope ahu ["_law_one","_law_other"] (defScope abM):=⟨rfl,rfl,rfl,by decide +kernel,rfl,by decide +kernel,by decide +kernel⟩
theorem adb (T:Tx P K mg base a d):FnG P w K mg base 2 (a aaL) (d aaL) ["_law_one","_law_other"] (sp2 fun x y Q _=>∃ p q:Rat,x=rD p/\y=rD q/\Nb 3900 p/\Nb 3900 q/\Q (.d (rD (p + q)))):=by
  have G__law_low:FnG P w K mg base 1 (a abo) (d abo) ["_law_top","_law_bottom"] (sp2 fun x y Q _=>∃ n m:Int,x=.int n/\y=.int m/\0 < m/\m.natAbs < 2 ^ 8000/\Q (.d (rD (Rat.divInt n m)))):=aeV T
  refine ae6 T.F__law_plus agO (fun cdv A outer s H E hr hg=>(aai (aat (aaf G__law_low (hr.mono (by decide)) hg (tkOf rfl rfl rfl rfl) (aej T) (by rfl) T.m__law_low T.F__law_low.kp (aaa (aeh (acf (aan ix_seq aag (aad (pv 0)) aae (fun _ _=>rfl)) (aan ix_seq aag (aad (pv 1)) aae (fun _ _=>rfl))) (acf (aan ix_seq aag (aad (pv 1)) aae (fun _ _=>rfl)) (aan ix_seq aag (aad (pv 0)) aae (fun _ _=>rfl)))) (aaa (acf (aan ix_seq aag (aad (pv 0)) aae (fun _ _=>rfl)) (aan ix_seq aag (aad (pv 1)) aae (fun _ _=>rfl))) aab)))))) (fun x y Q E h=>?_)
  replace h:∃ p q:Rat,x=rD p/\y=rD q/\Nb 3900 p/\Nb 3900 q/\Q (.d (rD (p + q))):=h
  obtain ⟨p,q,rfl,rfl,hp,hq,h⟩:=h
  refine aaY rfl (aaY rfl (adw (mulW hp.n (nbd hq) (by decide)) ?_))
  refine aaY rfl (aaY rfl (adw (mulW hq.n (nbd hp) (by decide)) (afL ?_)))
  refine aaY rfl (aaY rfl (adw (mulW (nbd hp) (nbd hq) (by decide)) ?_))
  refine ⟨rfl,rfl,_,_,rfl,_,_,rfl,rfl,Int.mul_pos (den_pos p) (den_pos q),aif hp hq,?_⟩
  rw [af7];exact h
abbrev ahv:List Str:=["_law_one","_law_other"]
theorem agP:FnScope ahv ["_law_one","_law_other"] (defScope abN):=⟨rfl,rfl,rfl,by decide +kernel,rfl,by decide +kernel,by decide +kernel⟩
theorem aec (T:Tx P K mg base a d):FnG P w K mg base 1 (a aa5) (d aa5) ["_law_one","_law_other"] (sp2 fun x y Q _=>∃ p q:Rat,x=rD p/\y=rD q/\Nb 3900 p/\Nb 3900 q/\Q (.d (.bl (decide (p < q))))):=by
  refine ae6 T.F__law_less agP (fun cdv A outer s H E hr hg=>(aai (aat (ae9 op_lt (aaM fun _ _ _=>.bl _) (acf (aan ix_seq aag (aad (pv 0)) aae (fun _ _=>rfl)) (aan ix_seq aag (aad (pv 1)) aae (fun _ _=>rfl))) (acf (aan ix_seq aag (aad (pv 1)) aae (fun _ _=>rfl)) (aan ix_seq aag (aad (pv 0)) aae (fun _ _=>rfl))) (nomark _))))) (fun x y Q E h=>?_)
  replace h:∃ p q:Rat,x=rD p/\y=rD q/\Nb 3900 p/\Nb 3900 q/\Q (.d (.bl (decide (p < q)))):=h
  obtain ⟨p,q,rfl,rfl,hp,hq,h⟩:=h
  refine aaY rfl (aaY rfl (adw (mulW hp.n (nbd hq) (by decide)) ?_))
  refine aaY rfl (aaY rfl (adw (mulW hq.n (nbd hp) (by decide)) ?_))
  refine acj ?_
  rw [akV];exact h
abbrev ag3:List Str:=["_law_pairs","_law_found","_law_pair"]
theorem acl:FnScope ag3 ["_law_pairs"] (defScope abu):=⟨rfl,rfl,rfl,by decide +kernel,rfl,by decide +kernel,by decide +kernel⟩
theorem agb (T:Tx P K mg base a d):FnG P w K mg base 2 (a abc) (d abc) ["_law_pairs"] (sp1 fun x Q _=>∃ p q:Rat,x=.lst [rD p,rD q]/\Nb 3900 p/\Nb 3900 q/\Q (.d (rD (leastQ p q)))):=by
  have G__law_less:FnG P w K mg base 1 (a aa5) (d aa5) ["_law_one","_law_other"] (sp2 fun x y Q _=>∃ p q:Rat,x=rD p/\y=rD q/\Nb 3900 p/\Nb 3900 q/\Q (.d (.bl (decide (p < q))))):=aec T
  refine adx T.F__law_least acl (fun cdv A outer s H E hr hg=>(aah (abG (i:=1) acl.nd rfl (Or.inl rfl) (aan ix_seq aag (aad (pv 0)) aae (fun _ _=>rfl)))
      (aah (adh (passes_of rfl) rfl (acL (aac (pv 0))) (aaB (i:=2) acl.nd rfl (Or.inl rfl)) (aai (abG (i:=1) acl.nd rfl (Or.inl rfl) (aeg (ace (aaf G__law_less (hr.mono (by decide)) hg (tkOf rfl rfl rfl rfl) (adT T) (by rfl) T.m__law_less T.F__law_less.kp (aaa (aac (pv 2)) (aaa (aac (pv 1)) aab)))) (aac (pv 2)) (aac (pv 1))))))
      (aai (aat (aac (pv 1))))))) (fun x Q E h=>?_)
  replace h:∃ p q:Rat,x=.lst [rD p,rD q]/\Nb 3900 p/\Nb 3900 q/\Q (.d (rD (leastQ p q))):=h
  obtain ⟨p,q,rfl,hp,hq,h⟩:=h
  refine adz (rD p) (fun Q hQ=>agl (ds:=[rD p,rD q]) rfl rfl hQ) ?_
  refine abf (fun s=>∃ a2,s=[some (.d (.lst [rD p,rD q])),some (.d (rD (leastQ p q))),a2]) (fun N hN=>?_) (fun s hs=>?_)
  · refine acF ?_
    show dForL _ _ _ [rD p,rD q] _
    rw [adg]
    refine ⟨rfl,rfl,_,_,rfl,p,p,rfl,rfl,hp,hp,?_⟩
    rw [decide_eq_false (by grind)]
    refine aa7 (brF ?_)
    show dForL _ _ _ [rD q] _
    rw [adg]
    refine ⟨rfl,rfl,_,_,rfl,q,p,rfl,rfl,hq,hp,?_⟩
    refine aa7 (br (fun z=>?_) (fun z=>?_))
    · have e:leastQ p q=q:=if_pos (of_decide_eq_true z)
      show dForL _ _ _ [] _
      rw [adP]
      exact hN _ ⟨_,by rw [e];rfl⟩
    · have e:leastQ p q=p:=if_neg (of_decide_eq_false z)
      show dForL _ _ _ [] _
      rw [adP]
      exact hN _ ⟨_,by rw [e];rfl⟩
  obtain ⟨a2,rfl⟩:=hs
  exact h
abbrev agf:List Str:=["_law_src","_law_way"]
theorem adv:FnScope agf ["_law_src"] (defScope abh):=⟨rfl,rfl,rfl,by decide +kernel,rfl,by decide +kernel,by decide +kernel⟩
theorem afr (T:Tx P K mg base a d):FnG P w K mg base 2 (a aa0) (d aa0) ["_law_src"] (sr0 fun Q _=>∀ q:Rat,Ln 60 60000000 q->Q (.d (rD q))):=by
  have G__law_draw:FnG P w K mg base 1 (a aau) (d aau) ["_law_src","_law_many"] (spDraw):=acA T
  have G__law_low:FnG P w K mg base 1 (a abo) (d abo) ["_law_top","_law_bottom"] (sp2 fun x y Q _=>∃ n m:Int,x=.int n/\y=.int m/\0 < m/\m.natAbs < 2 ^ 8000/\Q (.d (rD (Rat.divInt n m)))):=aeV T
  refine anf T.F__law_length adv (fun cdv A outer s H E hr hg=>(aah (abG (i:=1) adv.nd rfl (Or.inl rfl) (aaf G__law_draw (hr.mono (by decide)) hg (tkOf rfl rfl rfl rfl) (aaE T) (by rfl) T.m__law_draw T.F__law_draw.kp (aaa (aac (pv 0)) (aaa aae aab))))
      (aah (acG (abl op_lt (aaM fun _ _ _=>.bl _) (aad (pv 1)) aae (nomark _)) (aai (aat (aaN (aaa (aaf G__law_draw (hr.mono (by decide)) hg (tkOf rfl rfl rfl rfl) (aaE T) (by rfl) T.m__law_draw T.F__law_draw.kp (aaa (aac (pv 0)) (aaa aae aab))) (aaa aae aab))))) abH)
      (aah (acG (abl op_lt (aaM fun _ _ _=>.bl _) (aad (pv 1)) aae (nomark _)) (aai (aat (aaf G__law_low (hr.mono (by decide)) hg (tkOf rfl rfl rfl rfl) (aej T) (by rfl) T.m__law_low T.F__law_low.kp (aaa (aaf G__law_draw (hr.mono (by decide)) hg (tkOf rfl rfl rfl rfl) (aaE T) (by rfl) T.m__law_draw T.F__law_draw.kp (aaa (aac (pv 0)) (aaa aae aab))) (aaa (aeh aae (aaf G__law_draw (hr.mono (by decide)) hg (tkOf rfl rfl rfl rfl) (aaE T) (by rfl) T.m__law_draw T.F__law_draw.kp (aaa (aac (pv 0)) (aaa aae aab)))) aab))))) abH)
      (aai (aat (aaN (aaa (aaf G__law_draw (hr.mono (by decide)) hg (tkOf rfl rfl rfl rfl) (aaE T) (by rfl) T.m__law_draw T.F__law_draw.kp (aaa (aac (pv 0)) (aaa (anm aae aae) aab))) (aaa aae aab))))))))) (fun Q E h=>?_)
  replace h:∀ q:Rat,Ln 60 60000000 q->Q (.d (rD q)):=h
  have int:∀ n:Int,0<=n->n<=1000000->Q (.d (rt n 1)):=fun n h0 hn=>h (n:Rat) (am0 h0 hn)
  refine adj (fun x=>∃ n:Int,x=.int n) (fun Q hQ=>⟨rfl,rfl,_,rfl,by decide,by decide,fun n _ _=>hQ _ ⟨n,rfl⟩⟩) (fun x hx=>?_)
  obtain ⟨n,rfl⟩:=hx
  refine acj ?_
  refine br (fun _=>?_) (fun _=>?_)
  · refine ⟨rfl,rfl,_,rfl,by decide,by decide,fun m h0 h1=>?_⟩
    exact abw rfl rfl (int _ h0 (by omega))
  · refine acj ?_
    refine br (fun _=>?_) (fun _=>?_)
    · refine ⟨rfl,rfl,_,rfl,by decide,by decide,fun m h0 h1=>?_⟩
      refine ⟨rfl,rfl,_,rfl,by decide,by decide,fun k k0 k1=>?_⟩
      refine afL ?_
      refine ⟨rfl,rfl,_,_,rfl,m,1 + k,rfl,rfl,by omega,?_,?_⟩
      · exact Nat.lt_of_lt_of_le (show (1 + k).natAbs < 2 ^ 40 by omega) (Nat.pow_le_pow_right (by decide) (by decide))
      · exact h _ ((alS (B:=13) h0 (by omega) (by omega) (by omega)).mono (by decide))
    · refine afJ ⟨by decide,by decide,by decide⟩ ?_
      refine ⟨rfl,rfl,_,rfl,by decide,by decide,fun m h0 h1=>?_⟩
      have h1':m < 1000000:=h1
      exact abw rfl rfl (int _ h0 (by omega))
abbrev ahw:List Str:=["_law_src","_law_one"]
theorem agQ:FnScope ahw ["_law_src","_law_one"] (defScope abO):=⟨rfl,rfl,rfl,by decide +kernel,rfl,by decide +kernel,by decide +kernel⟩
theorem agZ (T:Tx P K mg base a d):FnG P w K mg base 2 (a abB) (d abB) ["_law_src","_law_one"] (sr1 fun x Q _=>∃ q:Rat,x=rD q/\∀ v:Vl,v.q=q->(v.bare=true->rD v.q=rt v.q.num 1)->Q (.d v.d)):=by
  have G__law_draw:FnG P w K mg base 1 (a aau) (d aau) ["_law_src","_law_many"] (spDraw):=acA T
  refine ane T.F__law_bare agQ (fun cdv A outer s H E hr hg=>(aai (aat (aeg (DW.dt (aid (abl (ab7 hr.units) adu (aan ix_seq aag (aad (pv 1)) aae (fun _ _=>rfl)) aae (nomark _)) (ags (abl (ab7 hr.units) adu (aaf G__law_draw (hr.mono (by decide)) hg (tkOf rfl rfl rfl rfl) (aaE T) (by rfl) T.m__law_draw T.F__law_draw.kp (aaa (aac (pv 0)) (aaa aae aab))) aae (nomark _))))) (aan ix_seq aag (aad (pv 1)) aae (fun _ _=>rfl)) (aac (pv 1)))))) (fun x Q E h=>?_)
  replace h:∃ q:Rat,x=rD q/\∀ v:Vl,v.q=q->(v.bare=true->rD v.q=rt v.q.num 1)->Q (.d v.d):=h
  obtain ⟨q,rfl,h⟩:=h
  have h1:Q (.d (rD q)):=h ⟨q,false⟩ rfl (fun e=>by cases e)
  have h2:rD q=rt q.num 1->Q (.d (.int q.num)):=fun e=>h ⟨q,true⟩ rfl (fun _=>e)
  refine aaY rfl ?_
  refine aen ?_
  refine br (fun z=>?_) (fun _=>?_)
  · have e:((q.den:Nat):Int)=1:=of_decide_eq_true z
    refine ⟨rfl,rfl,_,rfl,by decide,by decide,fun k _ _=>?_⟩
    refine aen ?_
    refine br (fun _=>?_) (fun _=>h1)
    refine aaY rfl ?_
    exact h2 (by unfold rD;rw [e])
  · exact brF h1
abbrev acT:List Str:=["_law_rows","_law_size","_law_by","_law_one","_law_other"]
theorem aaQ:FnScope acT ["_law_rows"] (defScope aaX):=⟨rfl,rfl,rfl,by decide +kernel,rfl,by decide +kernel,by decide +kernel⟩
theorem aft (T:Tx P K mg base a d):FnG P w K mg base 3 (a aa1) (d aa1) ["_law_rows"] (sp1 fun x Q _=>∃ (n:Nat) (f:Nat->Nat->Rat),x=tabD n f/\n<=5/\(∀ i j,i < n->j < n->Nb 40 (f i j))/\Q (.d (tabD n (closeF f n)))):=by
  have G__law_least:FnG P w K mg base 2 (a abc) (d abc) ["_law_pairs"] (sp1 fun x Q _=>∃ p q:Rat,x=.lst [rD p,rD q]/\Nb 3900 p/\Nb 3900 q/\Q (.d (rD (leastQ p q)))):=agb T
  have G__law_plus:FnG P w K mg base 2 (a aaL) (d aaL) ["_law_one","_law_other"] (sp2 fun x y Q _=>∃ p q:Rat,x=rD p/\y=rD q/\Nb 3900 p/\Nb 3900 q/\Q (.d (rD (p + q)))):=adb T
  refine adx T.F__law_closed aaQ (fun cdv A outer s H E hr hg=>(aah (abG (i:=1) aaQ.nd rfl (Or.inr rfl) (aam call_len abI (by rfl) T.n_len PySem.boot_len (aaa (aad (pv 0)) aab)))
      (aah (adh (passes_of rfl) rfl (abY (by rfl) T.n_range (aaa (aac (pv 1)) aab)) (aaB (i:=2) aaQ.nd rfl (Or.inr rfl)) (aai (ank (i:=0) (abG (i:=0) aaQ.nd rfl (Or.inr rfl) (adE (own:=[("_law_one",3)]) rfl aaQ.nd (abY (by rfl) T.n_range (aaa (aac (pv 1)) aab)) (blkOk_by (own:=[("_law_one",3)]) (N:=acT) (sc:=(defScope aaX)) (by decide +kernel)) (fun _ _ _ _ _=>(aaB (i:=3) aaQ.nd rfl (Or.inr rfl))) (fun _ _ _ _ _=>abF) (fun _ _ _ _ _=>(adE (own:=[("_law_other",4)]) rfl aaQ.nd (abY (by rfl) T.n_range (aaa (aac (pv 1)) aab)) (blkOk_by (own:=[("_law_other",4)]) (N:=acT) (sc:=_) (by kernel_rfl)) (fun _ _ _ _ _=>(aaB (i:=4) aaQ.nd rfl (Or.inl rfl))) (fun _ _ _ _ _=>abF) (fun _ _ _ _ _=>(aaf G__law_least (hr.mono (by decide)) hg acI (afA T) (by rfl) T.m__law_least T.F__law_least.kp (aaa (abd (aaa (aan ix_seq aag (aan ix_seq aag (aad (pv 0)) (aac (pv 3)) (fun _ _=>rfl)) (aac (pv 4)) (fun _ _=>rfl)) (aaa (aaf G__law_plus (hr.mono (by decide)) hg acI (acW T) (by rfl) T.m__law_plus T.F__law_plus.kp (aaa (aan ix_seq aag (aan ix_seq aag (aad (pv 0)) (aac (pv 3)) (fun _ _=>rfl)) (aac (pv 2)) (fun _ _=>rfl)) (aaa (aan ix_seq aag (aan ix_seq aag (aad (pv 0)) (aac (pv 2)) (fun _ _=>rfl)) (aac (pv 4)) (fun _ _=>rfl)) aab))) aab))) aab))))))))))
      (aai (aat (aac (pv 0))))))) (fun x Q E h=>?_)
  replace h:∃ (n:Nat) (f:Nat->Nat->Rat),x=tabD n f/\n<=5/\(∀ i j,i < n->j < n->Nb 40 (f i j))/\Q (.d (tabD n (closeF f n))):=h
  obtain ⟨n,f,rfl,h5,hb,h⟩:=h
  have hz:szl=16777216:=rfl
  refine adz (.int n) (fun Q hQ=>aiM hQ) ?_
  have lst0:∀ g:Nat->Nat->Rat,pubO (.lst ((List.range n).map fun i=>rowX n fun j=>rD (g i j)))=tabD n g:=fun g=>rfl
  refine abf (fun s=>∃ a0 a2,(a0=.d (tabD n (closeF f n))\/a0=.own (.lst ((List.range n).map fun i=>rowX n fun j=>rD (closeF f n i j))))/\s=[some a0,some (.d (.int n)),a2,none,none]) (fun N hN=>?_) (fun s hs=>?_)
  · refine acC (by omega) (by omega) ?_
    refine adQ (fun r s=>∃ (m:Nat) (a0:DV) (a2:Option DV),m<=n/\r=intsFrom (m:Int) (n - m)/\(a0=.d (tabD n (closeF f m))\/a0=.own (.lst ((List.range n).map fun i=>rowX n fun j=>rD (closeF f m i j))))/\s=[some a0,some (.d (.int n)),a2,none,none]) (fun N1 d r s hN1 hs=>?_) (fun s hs=>?_) _ _ ⟨0,_,_,by omega,rfl,.inl rfl,rfl⟩
    · obtain ⟨m,a0,a2,hm,er,ha,rfl⟩:=hs
      have hmn:m < n:=by
        rcases Nat.lt_or_ge m n with z | z
        · exact z
        · have:n - m=0:=by omega
          rw [this] at er;cases er
      obtain ⟨k,ek⟩:∃ k,n - m=k + 1:=⟨n - m - 1,by omega⟩
      rw [ek] at er
      have er2:d::r=.int (m:Int)::intsFrom ((m:Int) + 1) k:=er
      cases er2
      have bts:=ado hb m (by omega)
      have b5:bitsF m<=1000:=by
        have:m<=4:=by omega
        match m,this with
        | 0,_=>decide
        | 1,_=>decide
        | 2,_=>decide
        | 3,_=>decide
        | 4,_=>decide
      have ep:pubSl 0 [some a0,some (.d (.int n)),some (.d (.int (m:Int))),none,none]=[some (.d (tabD n (closeF f m))),some (.d (.int n)),some (.d (.int (m:Int))),none,none]:=by
        rcases ha with rfl | rfl<;>rfl
      show dSet _ 0 _ (pubSl 0 [some a0,some (.d (.int n)),some (.d (.int (m:Int))),none,none])
      rw [ep]
      refine acC (by omega) (by omega) ?_
      refine ahy (fun i=>rowX n fun j=>rD (stepF (closeF f m) m i j)) _ (by omega) (fun i hi M A mm=>?_) ?_
      · refine brT ?_
        refine acC (by omega) (by omega) ?_
        refine ahy (fun j=>rD (stepF (closeF f m) m i j)) _ (by omega) (fun j hj M' A' mm'=>?_) mm
        refine brT ?_
        refine ag6 (x:=fun i j=>rD (closeF f m i j)) hi (ahA hj ?_)
        refine ag6 (x:=fun i j=>rD (closeF f m i j)) hi (ahA hmn ?_)
        refine ag6 (x:=fun i j=>rD (closeF f m i j)) hmn (ahA hj ?_)
        refine ⟨rfl,rfl,_,_,rfl,_,_,rfl,rfl,(bts i m hi hmn).mono (by omega),(bts m j hmn hj).mono (by omega),?_⟩
        refine aca rfl rfl ?_
        exact ⟨rfl,rfl,_,rfl,_,_,rfl,(bts i j hi hj).mono (by omega),(ag0 (bts i m hi hmn) (bts m j hmn hj)).mono (by omega),mm'⟩
      · refine hN1 _ ⟨m + 1,_,_,by omega,?_,.inr rfl,rfl⟩
        have:n - (m + 1)=k:=by omega
        rw [this]
        show intsFrom ((m:Int) + 1) k=intsFrom ((m + 1:Nat):Int) k
        congr 1
    · obtain ⟨m,a0,a2,hm,er,ha,rfl⟩:=hs
      have:m=n:=by
        rcases Nat.lt_or_ge m n with z | z
        · obtain ⟨k,ek⟩:∃ k,n - m=k + 1:=⟨n - m - 1,by omega⟩
          rw [ek] at er;cases er
        · omega
      subst this
      exact hN _ ⟨a0,a2,ha,rfl⟩
  obtain ⟨a0,a2,ha,rfl⟩:=hs
  rcases ha with rfl | rfl
  · exact h
  · exact h
theorem pick1 {n:Nat} {R:Nat->Rat->Prop} (h:∀ i,i < n->∃ q,R i q):∃ f:Nat->Rat,∀ i,i < n->R i (f i):=
  ⟨fun i=>if z:i < n then (h i z).choose else 0,fun i hi=>by
    show R i (if z:i < n then (h i z).choose else 0)
    rw [dif_pos hi];exact (h i hi).choose_spec⟩
theorem pick2 {n:Nat} {R:Nat->(Nat->Rat)->Prop} (h:∀ i,i < n->∃ q,R i q):∃ f:Nat->Nat->Rat,∀ i,i < n->R i (f i):=
  ⟨fun i=>if z:i < n then (h i z).choose else fun _=>0,fun i hi=>by
    show R i (if z:i < n then (h i z).choose else fun _=>0)
    rw [dif_pos hi];exact (h i hi).choose_spec⟩
structure TabQ (n:Nat) (f:Nat->Nat->Rat):Prop where
  gd:GoodF n f
  ln:∀ i j,i < n->j < n->Ln 60 2000000000 (f i j)
theorem TabQ.nb {n:Nat} {f:Nat->Nat->Rat} (h:TabQ n f) (i j:Nat) (hi:i < n) (hj:j < n):Nb 1400 (f i j):=((h.ln i j hi hj).nb (k:=40) (by decide) (by decide) (by decide)).mono (by decide)
abbrev adc:List Str:=["_law_src","_law_size","_law_one","_law_other"]
theorem abX:FnScope adc ["_law_src","_law_size"] (defScope aa9):=⟨rfl,rfl,rfl,by decide +kernel,rfl,by decide +kernel,by decide +kernel⟩
theorem af9 (T:Tx P K mg base a d):FnG P w K mg base 4 (a abb) (d abb) ["_law_src","_law_size"] (fun args Q E=>∃ x:D,args=[.src,.d x]/\(∃ n:Nat,x=.int n/\n<=5/\∀ f:Nat->Nat->Rat,TabQ n f->Q (.d (tabD n f)))):=by
  have G__law_closed:FnG P w K mg base 3 (a aa1) (d aa1) ["_law_rows"] (sp1 fun x Q _=>∃ (n:Nat) (f:Nat->Nat->Rat),x=tabD n f/\n<=5/\(∀ i j,i < n->j < n->Nb 40 (f i j))/\Q (.d (tabD n (closeF f n)))):=aft T
  have G__law_length:FnG P w K mg base 2 (a aa0) (d aa0) ["_law_src"] (sr0 fun Q _=>∀ q:Rat,Ln 60 60000000 q->Q (.d (rD q))):=afr T
  refine aef T.F__law_table abX (by rintro _ Q E ⟨x,rfl,h⟩;rfl) (fun args Q E h=>alO (by obtain ⟨x,rfl,h⟩:=h;intro x hx;simp only [List.mem_cons,List.not_mem_nil,or_false] at hx;rcases hx with rfl | rfl<;>first | exact .inl (.inl ⟨_,rfl⟩) | exact .inr rfl | exact .inl (by assumption))) (fun cdv A outer s H E hr hg=>(aai (aat (aaf G__law_closed (hr.mono (by decide)) hg (tkOf rfl rfl rfl rfl) (afg T) (by rfl) T.m__law_closed T.F__law_closed.kp (aaa (adE (own:=[("_law_one",2)]) rfl abX.nd (abY (by rfl) T.n_range (aaa (aac (pv 1)) aab)) (blkOk_by (own:=[("_law_one",2)]) (N:=adc) (sc:=(defScope aa9)) (by decide +kernel)) (fun _ _ _ _ _=>(aaB (i:=2) abX.nd rfl (Or.inr rfl))) (fun _ _ _ _ _=>abF) (fun _ _ _ _ _=>(adE (own:=[("_law_other",3)]) rfl abX.nd (abY (by rfl) T.n_range (aaa (aac (pv 1)) aab)) (blkOk_by (own:=[("_law_other",3)]) (N:=adc) (sc:=_) (by kernel_rfl)) (fun _ _ _ _ _=>(aaB (i:=3) abX.nd rfl (Or.inl rfl))) (fun _ _ _ _ _=>abF) (fun _ _ _ _ _=>(aeg (abl (ab7 hr.units) adu (aad (pv 2)) (aad (pv 3)) (nomark _)) (aaN (aaa aae (aaa aae aab))) (aaf G__law_length (hr.mono (by decide)) hg acI (aff T) (by rfl) T.m__law_length T.F__law_length.kp (aaa (aac (pv 0)) aab))))))) aab))))) (fun args Q E h=>?_)
  obtain ⟨x,rfl,h⟩:=h
  obtain ⟨n,rfl,h5,h⟩:=h
  have hz:szl=16777216:=rfl
  refine acC (by omega) (by omega) ?_
  refine ah4 (fun i d=>∃ g:Nat->Rat,d=rowX n (fun j=>rD (g j))/\∀ j,j < n->Ln 60 60000000 (g j)/\(i=j->g j=0)) _ (by omega) (fun i hi M A hM=>?_) (fun ds hds=>?_)
  · refine brT ?_
    refine acC (by omega) (by omega) ?_
    refine ah4 (fun j d=>∃ q:Rat,d=rD q/\Ln 60 60000000 q/\(i=j->q=0)) _ (by omega) (fun j hj M' A' hM'=>?_) (fun es hes=>?_)
    · refine brT ?_
      refine aen ?_
      refine br (fun z=>?_) (fun z=>?_)
      · exact abw rfl rfl (hM' _ ⟨0,rfl,alR,fun _=>rfl⟩)
      · have ne:i≠j:=fun e=>of_decide_eq_false z (by rw [e])
        exact ⟨rfl,rfl,rfl,fun q hq=>hM' _ ⟨q,rfl,hq,fun e=>absurd e ne⟩⟩
    · obtain ⟨g,hg⟩:=pick1 hes
      refine hM _ ⟨g,?_,fun j hj=>(hg j hj).2⟩
      show D.lst ((List.range n).map es)=D.lst ((List.range n).map fun j=>rD (g j))
      congr 1
      exact List.map_congr_left fun j hj=>(hg j (List.mem_range.mp hj)).1
  · obtain ⟨f,hf⟩:=pick2 hds
    have e:D.lst ((List.range n).map ds)=tabD n f:=by
      unfold tabD tabX
      congr 1
      exact List.map_congr_left fun i hi=>(hf i (List.mem_range.mp hi)).1
    refine ⟨rfl,rfl,_,rfl,n,f,e,h5,fun i j hi hj=>(((hf i hi).2 j hj).1.nb (k:=40) (by decide) (by decide) (by decide)),?_⟩
    refine h _ ⟨aiI (fun i j hi hj=>((hf i hi).2 j hj).1.nn) (fun i hi=>((hf i hi).2 i hi).2 rfl),fun i j hi hj=>(ain (by decide) (fun i j hi hj=>((hf i hi).2 j hj).1) n (Nat.le_refl _) i j hi hj).mono ?_⟩
    match n,h5 with
    | 0,_=>decide
    | 1,_=>decide
    | 2,_=>decide
    | 3,_=>decide
    | 4,_=>decide
    | 5,_=>decide
end
section
variable {P:Program} {w:World} {K:PySem.W.Frag} {mg:Str->Option Value} {base:Heap} {a:Nat->Addr} {d:Nat->FuncData}
theorem ag5 {k:Nat}:∀ {m lo:Nat},lo<=k->k < lo + m->D.int (k:Int)∈intsFrom (lo:Int) m
  | 0,lo,h,h2=>by omega
  | m + 1,lo,h,h2=>by
    rw [adO]
    by_cases e:k=lo
    · subst e;exact List.mem_cons_self ..
    · exact List.mem_cons_of_mem _ (ag5 (lo:=lo + 1) (by omega) (by omega))
theorem aky {ds:List D} {v:DV} {Q:DV->Prop} (hv:v.dat=some (.lst ds)) (hi:∀ d∈ds,∃ i:Int,d=.int i) (h:Q (.d (.bl (!ds.isEmpty)))):eqR true v (.own (.lst [])) Q:=by
  have py:∀ es:List D,(∀ d∈es,∃ i:Int,d=.int i)->∃ ps,D.pyAll es=some ps/\ps.length=es.length/\PyData.canLayAll0 ps=true/\PyData.depthAll ps<=1:=by
    intro es
    induction es with
    | nil=>exact fun _=>⟨[],rfl,rfl,rfl,by decide⟩
    | cons e r ih=>
      intro hi
      obtain ⟨i,rfl⟩:=hi e (List.mem_cons_self ..)
      obtain ⟨ps,h1,h2,h3,h4⟩:=ih fun d hd=>hi d (List.mem_cons_of_mem _ hd)
      exact ⟨.int i::ps,by simp [D.pyAll,D.py,h1],by simp [h2],by simp [PyData.canLayAll0,PyData.canLay0,h3],by simp [PyData.depthAll,PyData.depth];omega⟩
  obtain ⟨ps,h1,h2,h3,h4⟩:=py ds hi
  refine am8 (p:=.list ps) (p':=.list []) hv rfl (by unfold D.py;rw [h1];rfl) rfl ?_ (by decide +kernel) (.inl ⟨_,rfl⟩) ?_
  · simp only [SeqAt.shaped,PyData.canLay0,h3,PyData.depth,Bool.true_and]
    exact decide_eq_true (by omega)
  · rw [amg]
    have e:ps.isEmpty=ds.isEmpty:=by
      cases ps<;>cases ds<;>first | rfl | (simp at h2)
    rw [e];exact h
abbrev acB:List Str:=["_law_table_here","_law_size","_law_x","_law_y","_law_by"]
theorem aaC:FnScope acB ["_law_table_here"] (defScope aap):=⟨rfl,rfl,rfl,by decide +kernel,rfl,by decide +kernel,by decide +kernel⟩
theorem adD (T:Tx P K mg base a d):FnG P w K mg base 3 (a aaq) (d aaq) ["_law_table_here"] (sp1 fun x Q _=>∃ (n:Nat) (f:Nat->Nat->Rat),x=tabD n f/\n<=9/\(∀ i j,i < n->j < n->Nb 1900 (f i j))/\(∀ i j,i < n->j < n->bad2 n f i j->(∀ i' j',ahead n i j i' j'->¬ bad2 n f i' j')->Q (.d (.tup [.int (i:Int),.int (j:Int)])))/\((∀ i j,i < n->j < n->¬ bad2 n f i j)->Q (.d .non))):=by
  have G__law_less:FnG P w K mg base 1 (a aa5) (d aa5) ["_law_one","_law_other"] (sp2 fun x y Q _=>∃ p q:Rat,x=rD p/\y=rD q/\Nb 3900 p/\Nb 3900 q/\Q (.d (.bl (decide (p < q))))):=aec T
  have G__law_plus:FnG P w K mg base 2 (a aaL) (d aaL) ["_law_one","_law_other"] (sp2 fun x y Q _=>∃ p q:Rat,x=rD p/\y=rD q/\Nb 3900 p/\Nb 3900 q/\Q (.d (rD (p + q)))):=adb T
  refine adx T.F__law_first_wrong aaC (fun cdv A outer s H E hr hg=>(aah (abG (i:=1) aaC.nd rfl (Or.inl rfl) (aam call_len abI (by rfl) T.n_len PySem.boot_len (aaa (aad (pv 0)) aab)))
      (aah (adh (passes_of rfl) rfl (abY (by rfl) T.n_range (aaa (aac (pv 1)) aab)) (aaB (i:=2) aaC.nd rfl (Or.inr rfl)) (aai (adh (passes_of rfl) rfl (abY (by rfl) T.n_range (aaa (aac (pv 1)) aab)) (aaB (i:=3) aaC.nd rfl (Or.inr rfl)) (aai (acG (abl (adL hr.units) agJ (adE (own:=[("_law_by",4)]) rfl aaC.nd (abY (by rfl) T.n_range (aaa (aac (pv 1)) aab)) (blkOk_by (own:=[("_law_by",4)]) (N:=acB) (sc:=(defScope aap)) (by decide +kernel)) (fun _ _ _ _ _=>(aaB (i:=4) aaC.nd rfl (Or.inl rfl))) (fun _ _ _ _ _=>(amh (ace (aaf G__law_less (hr.mono (by decide)) hg acI (adT T) (by rfl) T.m__law_less T.F__law_less.kp (aaa (aaf G__law_plus (hr.mono (by decide)) hg acI (acW T) (by rfl) T.m__law_plus T.F__law_plus.kp (aaa (aan ix_seq aag (aan ix_seq aag (aad (pv 0)) (aac (pv 2)) (fun _ _=>rfl)) (aac (pv 4)) (fun _ _=>rfl)) (aaa (aan ix_seq aag (aan ix_seq aag (aad (pv 0)) (aac (pv 4)) (fun _ _=>rfl)) (aac (pv 3)) (fun _ _=>rfl)) aab))) (aaa (aan ix_seq aag (aan ix_seq aag (aad (pv 0)) (aac (pv 2)) (fun _ _=>rfl)) (aac (pv 3)) (fun _ _=>rfl)) aab)))))) (fun _ _ _ _ _=>(aac (pv 4)))) (abd aab) (nomark _)) (aai (aat (aaN (aaa (aac (pv 2)) (aaa (aac (pv 3)) aab))))) abH)))))
      (aai (aat acM))))) (fun x Q E h=>?_)
  replace h:∃ (n:Nat) (f:Nat->Nat->Rat),x=tabD n f/\n<=9/\(∀ i j,i < n->j < n->Nb 1900 (f i j))/\(∀ i j,i < n->j < n->bad2 n f i j->(∀ i' j',ahead n i j i' j'->¬ bad2 n f i' j')->Q (.d (.tup [.int (i:Int),.int (j:Int)])))/\((∀ i j,i < n->j < n->¬ bad2 n f i j)->Q (.d .non)):=h
  obtain ⟨n,f,rfl,n9,nb,h1,h2⟩:=h
  have hz:szl=16777216:=rfl
  refine adz (.int n) (fun Q hQ=>aiM hQ) ?_
  refine abf (fun s=>(∀ i j,i < n->j < n->¬ bad2 n f i j)/\∃ a2 a3,s=[some (.d (tabD n f)),some (.d (.int n)),a2,a3,none]) (fun N hN=>?_) (fun s hs=>?_)
  · refine acC (by omega) (by omega) ?_
    refine adl (fun i s=>(∀ i' j',ahead n i 0 i' j'->¬ bad2 n f i' j')/\∃ a2 a3,s=[some (.d (tabD n f)),some (.d (.int n)),a2,a3,none]) n ⟨fun _ _ z=>absurd z ad5,_,_,rfl⟩ (fun N1 i s hi hN1 hs=>?_) (fun s ⟨hg,hs⟩=>hN s ⟨fun i j a b=>hg i j (afd a b),hs⟩)
    obtain ⟨hg,a2,a3,rfl⟩:=hs
    refine acC (by omega) (by omega) ?_
    refine adl (fun j s=>(∀ i' j',ahead n i j i' j'->¬ bad2 n f i' j')/\∃ a3,s=[some (.d (tabD n f)),some (.d (.int n)),some (.d (.int (i:Int))),a3,none]) n ⟨hg,_,rfl⟩ (fun N2 j s hj hN2 hs=>?_) (fun s ⟨hg,a3,hs⟩=>hN1 s ⟨fun i' j' z=>hg i' j' (afc z),_,a3,hs⟩)
    obtain ⟨hg,a3,rfl⟩:=hs
    have go:∀ k:Nat,k < n->Nb 3900 (f i k + f k j)/\Nb 3900 (f i j):=fun k hk=>⟨(ag0 (nb i k hi hk) (nb k j hk hj)).mono (by decide),(nb i j hi hj).mono (by decide)⟩
    refine acC (by omega) (by omega) ?_
    refine ah5 (fun d=>match d with
      | .int k=>decide (f i k.toNat + f k.toNat j < f i j)
      | _=>false) id _ _ [] (by rw [ade];simp;omega) (fun d hd M A m1 m2=>?_) ?_
    · obtain ⟨k,hk,rfl⟩:=adM hd
      have hk:k < n:=by omega
      have e0:(0:Int) + (k:Int)=(k:Int):=by omega
      rw [e0] at m1 m2 ⊢
      refine ag6 hi (ahA hk ?_)
      refine ag6 hk (ahA hj ?_)
      refine ⟨rfl,rfl,_,_,rfl,_,_,rfl,rfl,(nb i k hi hk).mono (by decide),(nb k j hk hj).mono (by decide),?_⟩
      refine ag6 hi (ahA hj ?_)
      refine ⟨rfl,rfl,_,_,rfl,_,_,rfl,rfl,(go k hk).1,(go k hk).2,?_⟩
      have e1:((k:Int).toNat)=k:=by omega
      dsimp only at m1 m2
      rw [e1] at m1 m2
      refine aa7 ?_
      by_cases c:f i k + f k j < f i j
      · rw [decide_eq_true c]
        exact brT (m1 (decide_eq_true c))
      · rw [decide_eq_false c]
        exact brF (m2 (decide_eq_false c))
    · refine aca rfl rfl ?_
      refine aky (v:=.own (.lst _)) rfl (fun d hd=>?_) ?_
      · rw [List.map_id,List.nil_append] at hd
        obtain ⟨k,_,rfl⟩:=adM (List.mem_filter.mp hd).1
        exact ⟨_,rfl⟩
      rw [List.map_id,List.nil_append]
      by_cases b:bad2 n f i j
      · obtain ⟨k,hk,lt⟩:=b
        have m:D.int (k:Int)∈(intsFrom 0 ((n:Int)).toNat).filter (fun d=>match d with
          | .int k=>decide (f i k.toNat + f k.toNat j < f i j)
          | _=>false):=List.mem_filter.mpr ⟨ag5 (lo:=0) (by omega) (by omega),by
            have e1:((k:Int).toNat)=k:=by omega
            dsimp only
            rw [e1];exact decide_eq_true lt⟩
        rw [show List.isEmpty _=false from (by rw [Bool.eq_false_iff];intro z;rw [List.isEmpty_iff] at z;rw [z] at m;cases m)]
        exact brT (abw rfl rfl (h1 i j hi hj ⟨k,hk,lt⟩ hg))
      · rw [show List.isEmpty _=true from (by
          rw [List.isEmpty_iff,List.filter_eq_nil_iff]
          intro d hd
          obtain ⟨k,hk,rfl⟩:=adM hd
          have e1:((0:Int) + (k:Int)).toNat=k:=by omega
          dsimp only
          rw [e1]
          intro z
          exact b ⟨k,by omega,of_decide_eq_true z⟩)]
        refine brF (hN2 _ ⟨fun i' j' y=>?_,_,rfl⟩)
        rcases ahead_step y with y | ⟨rfl,rfl⟩
        · exact hg i' j' y
        · exact b
  obtain ⟨hg,a2,a3,rfl⟩:=hs
  exact h2 hg
end
section
variable {P:Program} {w:World} {K:PySem.W.Frag} {mg:Str->Option Value} {base:Heap} {a:Nat->Addr} {d:Nat->FuncData}
def WRp (fs:List (Str × D)) (z:Str):Prop:=∃ (n:Nat) (f:Nat->Nat->Rat),fs=([("own_tables",.lst [tabL n f]),("own_names",.dk [])]:List (Str × D))/\n<=9/\z=rpW [] n 1
def spSameI (C:Addr) (W:List (Str × D)->Str->Prop):SpD:=fun args Q E=>spSame args Q E\/∃ (d:D) (rp:List (Str × D)->Str),args=[.d d,.d d]/\okI C (fun fs=>W fs (rp fs)) d/\((∃ ds,d=.lst ds)\/∃ ds,d=.tup ds)/\(txI rp d).length<=szl/\dpI d<=8/\Q (.d (.bl true))
theorem aga (T:Tx P K mg base a d):FnG P w K mg base 14 (a abA) (d abA) ["_law_found","_law_due"] (spSameI (He.ga K "World") WRp):=by
  have hWR:∀ fs z,WRp fs z->(sp1 fun me (Q:DV->Prop) (_:XE')=>∃ (n:Nat) (f:Nat->Nat->Rat) (tabs:List D) (ks:List Str) (val:Str->D),me=wld K (tabL n f::tabs) (kvD ks val)/\n<=9/\tabs.length<=1/\ks.length<=9/\(∀ z∈ks,WOk z)/\∀ ys:List Str,ys.Perm ks->sortedS ys=true->Q (.d (.str (rpW ys n (tabs.length + 1))))) [.d (.ins (He.ga K "World") fs)] (fun v=>v=.d (.str z)) fun _ _=>False:=by
    rintro fs z ⟨n,f,rfl,n9,rfl⟩
    refine ⟨_,rfl,n,f,[],[],(fun _=>.non),rfl,n9,by decide,by decide,(fun _ h=>by cases h),fun ys hp _=>?_⟩
    have e:ys=[]:=List.length_eq_zero_iff.mp hp.length_eq
    subst e;rfl
  refine aef T.F__law_same agN (fun args Q E h=>?_) (fun args Q E h=>?_) (fun cdv A outer s H E hr hg=>(aai (aat (ae9 (ab7 hr.units) adu (aam (aj1 (afP hg (akU hr)) (afO (W:=WRp) T.me_World___repr__ (acH T) (acN T) hWR (hr.mono (by decide)) hg)) (akS ahV agI) (by rfl) T.n_repr (by decide +kernel) (aaa (aad (pv 0)) aab)) (aam (aj1 (afP hg (akU hr)) (afO (W:=WRp) T.me_World___repr__ (acH T) (acN T) hWR (hr.mono (by decide)) hg)) (akS ahV agI) (by rfl) T.n_repr (by decide +kernel) (aaa (aad (pv 1)) aab)) (nomark _))))) (fun args Q E h=>?_)
  · rcases h with ⟨_,_,_,_,rfl,_⟩ | ⟨_,_,rfl,_⟩<;>rfl
  · rcases h with ⟨_,_,_,_,rfl,_⟩ | ⟨_,_,rfl,_⟩
    all_goals
      intro i o z
      match i with
      | 0=>cases z
      | 1=>cases z
      | i + 2=>simp at z
  · rcases h with h | h
    · obtain ⟨d1,d2,p,q,rfl,s1,s2,h⟩:=h
      exact .inl (ai7 s1 (.inl (ai7 s2 (am7 h))))
    · obtain ⟨d,rp,rfl,o,sh,hz,h8,h⟩:=h
      exact .inr (ajB rp o sh hz h8 (.inr (ajB rp o sh hz h8 (am7 (by rw [decide_eq_true rfl];exact h)))))
abbrev J (a2 a3 a4 a5 a6 a7 a8 a9 a10 a11 a12 a13:Option DV):DSt:=[none,some .src,a2,a3,a4,a5,a6,a7,a8,a9,a10,a11,a12,a13,none,none]
inductive Ok1:Option DV->Prop
  | n:Ok1 none
  | d (x:D):Ok1 (some (.d x))
  | o (x:OO):Ok1 (some (.own x))
  | s:Ok1 (some .src)
inductive Pln:DSt->Prop
  | nil:Pln []
  | cons {a:Option DV} {r:DSt}:Ok1 a->Pln r->Pln (a::r)
theorem Pln.mu {sl:DSt} (h:Pln sl):noMu sl=true/\noBi sl=true:=by
  induction h with
  | nil=>exact ⟨rfl,rfl⟩
  | cons h t ih=>cases h<;>exact ih
theorem amR {a2 a3 a4 a5 a6 a7 a8 a9 a10 a11 a12 a13:Option DV} (h2:Ok1 a2) (h3:Ok1 a3) (h4:Ok1 a4) (h5:Ok1 a5) (h6:Ok1 a6) (h7:Ok1 a7) (h8:Ok1 a8) (h9:Ok1 a9) (h10:Ok1 a10) (h11:Ok1 a11) (h12:Ok1 a12) (h13:Ok1 a13):Pln (J a2 a3 a4 a5 a6 a7 a8 a9 a10 a11 a12 a13):=
  .cons .n (.cons .s (.cons h2 (.cons h3 (.cons h4 (.cons h5 (.cons h6 (.cons h7 (.cons h8 (.cons h9 (.cons h10 (.cons h11 (.cons h12 (.cons h13 (.cons .n (.cons .n .nil)))))))))))))))
structure TabW (n:Nat) (f:Nat->Nat->Rat):Prop where
  nn:∀ i j,i < n->j < n->0<=f i j
  dg:∀ i,i < n->f i i=0
  nb:∀ i j,i < n->j < n->Nb 1900 (f i j)
theorem TabW.good1 {n:Nat} {f:Nat->Nat->Rat} {e:Nat->Nat->D} (w:TabW n f) (he:∀ i j,i < n->j < n->ratOf (e i j)=some (f i j)):∀ i j,i < n->j < n->¬ bad1 e i j:=by
  intro i j hi hj b
  unfold bad1 at b
  rw [he i j hi hj] at b
  rcases b with b | ⟨rfl,b⟩
  · exact absurd (w.nn i j hi hj) (Rat.not_le.mpr b)
  · exact b (w.dg i hi)
theorem TabW.en {n:Nat} {f:Nat->Nat->Rat} {e:Nat->Nat->D} (w:TabW n f) (l1:1<=n) (l9:n<=9) (he:∀ i j,i < n->j < n->ratOf (e i j)=some (f i j)) (hp:∀ i j,i < n->j < n->Pl (e i j)):EnOk n e:=
  ⟨l1,l9,hp,fun i j q hi hj h=>by rw [he i j hi hj] at h;cases h;exact w.nb i j hi hj⟩
def Fw (n:Nat) (f:Nat->Nat->Rat) (d:D):Prop:=(∃ i j:Nat,i < n/\j < n/\bad2 n f i j/\(∀ i' j',DL.ahead n i j i' j'->¬ bad2 n f i' j')/\d=.tup [.int (i:Int),.int (j:Int)])\/((∀ i j,i < n->j < n->¬ bad2 n f i j)/\d=.non)
theorem Fw.first {n:Nat} {f:Nat->Nat->Rat} {e:Nat->Nat->D} {d:D} {Q:D->Prop} (h:Fw n f d) (w:TabW n f) (he:∀ i j,i < n->j < n->ratOf (e i j)=some (f i j)) (q:Q d):FirstW n e Q:=by
  refine ⟨fun i j hi hj b _=>absurd b (w.good1 he i j hi hj),fun _ g hg=>?_⟩
  have eg:∀ i j,i < n->j < n->g i j=f i j:=fun i j hi hj=>by
    have:=hg i j hi hj
    rw [he i j hi hj] at this
    exact (Option.some.inj this).symm
  have eb:∀ i j,i < n->j < n->(bad2 n g i j ↔ bad2 n f i j):=fun i j hi hj=>
    ⟨fun ⟨k,hk,l⟩=>⟨k,hk,by rw [<- eg i k hi hk,<- eg k j hk hj,<- eg i j hi hj];exact l⟩,fun ⟨k,hk,l⟩=>⟨k,hk,by rw [eg i k hi hk,eg k j hk hj,eg i j hi hj];exact l⟩⟩
  refine ⟨fun i j hi hj b al=>?_,fun no=>?_⟩
  · rcases h with ⟨i0,j0,hi0,hj0,b0,al0,rfl⟩ | ⟨no,rfl⟩
    · have h1:¬ DL.ahead n i0 j0 i j:=fun a=>al0 i j a ((eb i j hi hj).mp b)
      have h2:¬ DL.ahead n i j i0 j0:=fun a=>al i0 j0 a ((eb i0 j0 hi0 hj0).mpr b0)
      unfold DL.ahead at h1 h2
      have ei:i=i0:=by omega
      have ej:j=j0:=by omega
      subst ei;subst ej
      exact q
    · exact absurd ((eb i j hi hj).mp b) (no i j hi hj)
  · rcases h with ⟨i0,j0,hi0,hj0,b0,al0,rfl⟩ | ⟨_,rfl⟩
    · exact absurd ((eb i0 j0 hi0 hj0).mpr b0) (no i0 j0 hi0 hj0)
    · exact q
theorem ac9 {α:Type} {f:α->D}:∀ {xs:List α},(∀ x∈xs,Pl (f x))->Pls (xs.map f)
  | [],_=>abP
  | x::r,h=>aaH (h x (List.mem_cons_self ..)) (ac9 fun y hy=>h y (List.mem_cons_of_mem _ hy))
theorem akZ {n:Nat} {x:Nat->D} (h:∀ j,j < n->Pl (x j)):Pl (rowX n x):=aeb (ac9 fun j hj=>h j (List.mem_range.mp hj))
abbrev PlT (x:D):Prop:=Pl x/\∀ ds,itemsD x=some ds->ds.length < 2 ^ 60/\∀ r∈ds,Pl r
theorem acQ {ds:List D} (h:Pls ds) (hl:ds.length<=100):PlT (.lst ds):=⟨aeb h,fun es e=>by
  cases e
  exact ⟨Nat.lt_of_le_of_lt hl (by decide),fun r hr=>Pls.mem h hr⟩⟩
theorem alF {ds:List D} (h:Pls ds) (hl:ds.length<=100):PlT (.tup ds):=⟨aeR h,fun es e=>by
  cases e
  exact ⟨Nat.lt_of_le_of_lt hl (by decide),fun r hr=>Pls.mem h hr⟩⟩
theorem ajg {x:D} (h:Pl x) (hi:itemsD x=none):PlT x:=⟨h,fun ds e=>by rw [hi] at e;cases e⟩
theorem ada {n:Nat} {e:Nat->Nat->D} (n9:n<=9) (h:∀ i j,i < n->j < n->Pl (e i j)):PlT (tabX n e):=
  acQ (ac9 fun i hi=>akZ fun j hj=>h i j (List.mem_range.mp hi) hj) (by rw [List.length_map,List.length_range];omega)
theorem ahT {x:D} {n:Nat} {rs:Nat->D} (h:itemsD x=some ((List.range n).map rs)) (n1:1<=n) (n9:n<=9) (hr:∀ i,i < n->∃ es,itemsD (rs i)=some es/\es.length=n):isSqD x=true:=by
  unfold isSqD
  rw [h]
  simp only [List.length_map,List.length_range,Bool.and_eq_true,decide_eq_true_eq,List.all_eq_true]
  refine ⟨⟨n1,n9⟩,fun r hr'=>?_⟩
  obtain ⟨i,hi,rfl⟩:=List.mem_map.mp hr'
  obtain ⟨es,e1,e2⟩:=hr i (List.mem_range.mp hi)
  unfold rowSq
  rw [e1]
  simpa using e2
theorem aea {n:Nat} {e:Nat->Nat->D} (n1:1<=n) (n9:n<=9):isSqD (tabX n e)=true:=ahT (rs:=fun i=>rowX n (e i)) rfl n1 n9 fun i _=>⟨_,rfl,by rw [List.length_map,List.length_range]⟩
theorem ams {K:PySem.W.Frag} {ly x sz:D} {n:Nat} {e:Nat->Nat->D} {Q:DV->Prop} {E:XE'} (pl:PlT x) (tl:TabL n e x) (sq:isSqD x=true) (ok:EnOk n e) (hs:sz=.non\/sz=.int (n:Int))
    (h:FirstW n e fun d=>(∃ i j:Nat,d=.tup [.int (i:Int),.int (j:Int)]/\E (.ref (He.ga K "InvalidWay")) (abe ly (.int (i:Int)) (.int (j:Int))))\/(d=.non/\∃ f:Nat->Nat->Rat,(∀ i j,i < n->j < n->ratOf (e i j)=some (f i j))/\Q (.own (.lst ((List.range n).map fun i=>rowX n fun j=>rD (f i j)))))):ChkT K ly x sz Q E:=by
  obtain ⟨rs,r1,_⟩:=tl.rows
  have so:szOk x sz=true:=by
    unfold szOk
    rw [sq]
    rcases hs with rfl | rfl
    · rfl
    · rw [r1]
      simp
  refine ⟨pl.1,pl.2,hs.imp id fun h=>⟨_,h⟩,fun z=>?_,fun _=>⟨n,e,tl,ok,h⟩⟩
  rw [so] at z;cases z
theorem agw {K:PySem.W.Frag} {ly x sz:D} {Q:DV->Prop} {E:XE'} (pl:PlT x) (sq:szOk x sz=false) (hs:sz=.non\/∃ m:Int,sz=.int m) (h:E (.ref (He.ga K "InvalidTable")) (abW ly)):ChkT K ly x sz Q E:=
  ⟨pl.1,pl.2,hs,fun _=>h,fun z=>by rw [sq] at z;cases z⟩
theorem ahl {x sz:D} (h:isSqD x=false):szOk x sz=false:=by unfold szOk;rw [h];rfl
theorem adp {K:PySem.W.Frag} {ly x sz:D} {n:Nat} {e:Nat->Nat->D} {f:Nat->Nat->Rat} {Q:DV->Prop} {E:XE'} (pl:PlT x) (tl:TabL n e x) (sq:isSqD x=true) (l1:1<=n) (l9:n<=9) (w:TabW n f) (no:∀ i j,i < n->j < n->¬ bad2 n f i j)
    (he:∀ i j,i < n->j < n->ratOf (e i j)=some (f i j)) (hp:∀ i j,i < n->j < n->Pl (e i j)) (hs:sz=.non\/sz=.int (n:Int)) (q:Q (.own (.lst ((List.range n).map fun i=>rowX n fun j=>rD (f i j))))):ChkT K ly x sz Q E:=
  ams pl tl sq (w.en l1 l9 he hp) hs ((show Fw n f .non from .inr ⟨no,rfl⟩).first w he (.inr ⟨rfl,f,he,q⟩))
theorem aj0 {K:PySem.W.Frag} {ly x sz:D} {n i j:Nat} {e:Nat->Nat->D} {f:Nat->Nat->Rat} {Q:DV->Prop} {E:XE'} (pl:PlT x) (tl:TabL n e x) (sq:isSqD x=true) (l1:1<=n) (l9:n<=9) (w:TabW n f) (h:Fw n f (.tup [.int (i:Int),.int (j:Int)]))
    (he:∀ i j,i < n->j < n->ratOf (e i j)=some (f i j)) (hp:∀ i j,i < n->j < n->Pl (e i j)) (hs:sz=.non\/sz=.int (n:Int)) (q:E (.ref (He.ga K "InvalidWay")) (abe ly (.int (i:Int)) (.int (j:Int)))):ChkT K ly x sz Q E:=
  ams pl tl sq (w.en l1 l9 he hp) hs (h.first w he (.inl ⟨i,j,rfl,q⟩))
theorem amt {K:PySem.W.Frag} {ly x sz:D} {n i j:Nat} {e:Nat->Nat->D} {Q:DV->Prop} {E:XE'} (pl:PlT x) (tl:TabL n e x) (sq:isSqD x=true) (ok:EnOk n e) (hi:i < n) (hj:j < n) (hb:bad1 e i j) (hn:∀ i' j',i' < n->j' < n->bad1 e i' j'->i'=i/\j'=j) (hs:sz=.non\/sz=.int (n:Int))
    (q:E (.ref (He.ga K "InvalidWay")) (abe ly (.int (i:Int)) (.int (j:Int)))):ChkT K ly x sz Q E:=
  ams pl tl sq ok hs ⟨fun i' j' hi' hj' b _=>by
    obtain ⟨rfl,rfl⟩:=hn i' j' hi' hj' b
    exact .inl ⟨_,_,rfl,q⟩,fun no=>absurd hb (no i j hi hj)⟩
theorem aet {n:Nat} {f:Nat->Nat->Rat} (h:GoodF n f):∀ i j,i < n->j < n->¬ bad2 n f i j:=fun i j hi hj ⟨k,hk,l⟩=>absurd (h.tri i j k hi hj hk) (Rat.not_le.mpr l)
theorem TabQ.tw {n:Nat} {f:Nat->Nat->Rat} (h:TabQ n f):TabW n f:=⟨h.gd.pos,h.gd.dia,fun i j hi hj=>(h.nb i j hi hj).mono (by decide)⟩
theorem aeZ {te:TD} {n:Nat} {e:Nat->Nat->D} {C:Addr} {ps:List (Addr × List D)} {sl:DSt} {Q:DV->DSt->Prop} {E:XP} (h7:sl[7]?=some (some (nestD C ps))) (nm:noMu (sl.set 7 none)=true) (hps:ps.map (·.2)=tRows n e)
    (h:te (sl.set 7 (some (.d (tabX n e)))) (fun dv s1=>s1=sl.set 7 (some (.d (tabX n e)))/\∃ y:D,dv=.d y/\y.flat=true/\Q dv sl) (fun cls fs s1=>s1=sl.set 7 (some (.d (tabX n e)))/\D.flatF fs=true/\E cls fs sl)):dLendN 7 te sl Q E:=
  ⟨C,ps,h7,nm,by rw [af5 hps];exact h⟩
theorem aiE {te:TDT} {n:Nat} {e:Nat->Nat->D} {C:Addr} {ps:List (Addr × List D)} {sl:DSt} {Q:Bool->DSt->Prop} {E:XP} (h7:sl[7]?=some (some (nestD C ps))) (nm:noMu (sl.set 7 none)=true) (hps:ps.map (·.2)=tRows n e)
    (h:te (sl.set 7 (some (.d (tabX n e)))) (fun b s1=>s1=sl.set 7 (some (.d (tabX n e)))/\Q b sl) (fun cls fs s1=>s1=sl.set 7 (some (.d (tabX n e)))/\D.flatF fs=true/\E cls fs sl)):dLendNT 7 te sl Q E:=
  ⟨C,ps,h7,nm,by rw [af5 hps];exact h⟩
def setF (f:Nat->Nat->Rat) (x y:Nat) (q:Rat):Nat->Nat->Rat:=fun i j=>if i=x/\j=y then q else f i j
theorem alo (f:Nat->Nat->Rat) (x y:Nat) (q:Rat):setE (fun i j=>rD (f i j)) x y (rD q)=fun i j=>rD (setF f x y q i j):=by
  funext i j
  unfold setE setF
  split<;>rfl
theorem ak8 {n x:Nat} (h:x < n):ixN n (x:Int)=some x:=by
  unfold ixN
  simp [h]
theorem amc {ps:List (Addr × List D)} {x:Nat} {p q:Addr × List D} (hp:ps[x]?=some p) (e:q.1=p.1):(ps.set x q).map (·.1)=ps.map (·.1):=by
  rw [List.map_set]
  apply List.ext_getElem?
  intro i
  by_cases h:x=i
  · subst h
    have hl:x < (ps.map (·.1)).length:=by
      rw [List.length_map];exact (List.getElem?_eq_some_iff.mp hp).1
    rw [List.getElem?_set_self hl,List.getElem?_map,hp,e];rfl
  · rw [List.getElem?_set_ne h]
theorem ajb {te:TD} {E:EndsD} {sl:DSt} {C:Addr} {ps:List (Addr × List D)} {n x y:Nat} {e:Nat->Nat->D} (R:D->Prop) (h5:sl[5]?=some (some (.d (.int (x:Int))))) (h6:sl[6]?=some (some (.d (.int (y:Int))))) (h7:sl[7]?=some (some (nestD C ps))) (nm:noMu (sl.set 7 none)=true) (hps:ps.map (·.2)=tRows n e) (hx:x < n) (hy:y < n)
    (ht:∀ Q:DV->DSt->Prop,(∀ d,R d->Q (.d d) sl)->te sl Q E.xc)
    (fin:∀ d ps',R d->ps'.map (·.1)=ps.map (·.1)->ps'.map (·.2)=tRows n (setE e x y d)->E.nx (sl.set 7 (some (nestD C ps')))):dPutN (dVar 5) (dVar 6) te 7 E sl:=by
  refine ht _ fun d hd=>⟨d,rfl,C,ps,h7,?_⟩
  obtain ⟨p,hp,ep⟩:=ai5 hps hx
  have v5:∀ Q:DV->DSt->Prop,Q (.d (.int (x:Int))) sl->dVar 5 sl Q E.xc:=fun Q h=>by unfold dVar;rw [h5];exact h
  have v6:∀ Q:DV->DSt->Prop,Q (.d (.int (y:Int))) sl->dVar 6 sl Q E.xc:=fun Q h=>by unfold dVar;rw [h6];exact h
  refine v5 _ ⟨x,x,p,rfl,h7,by rw [akk hps];exact ak8 hx,hp,?_⟩
  refine v6 _ ⟨y,y,rfl,h7,nm,by rw [ep,List.length_map,List.length_range];exact ak8 hy,fin d _ hd (amc hp rfl) (akj hps hx hp)⟩
theorem amL {n x y:Nat} {f:Nat->Nat->Rat} {q:Rat} (h:TabQ n f) (q0:0<=q) (qn:Nb 1900 q) (qd:x=y->q=0):TabW n (setF f x y q):=by
  have w:=h.tw
  refine ⟨fun i j hi hj=>?_,fun i hi=>?_,fun i j hi hj=>?_⟩
  · unfold setF;split
    · exact q0
    · exact w.nn i j hi hj
  · unfold setF;split
    · rename_i c;exact qd (c.1.symm.trans c.2)
    · exact w.dg i hi
  · unfold setF;split
    · exact qn
    · exact w.nb i j hi hj
def foD (n:Nat):D->List D
  | .tup [i,j]=>[.str "InvalidWay",.str "foot",i,j]
  | _=>[.str "",.int (n:Int)]
theorem amO:rD (1 / 3)=.tup [.int 1,.int 3]:=by kernel_rfl
theorem vlx {v:Vl} (hb:v.bare=true->rD v.q=rt v.q.num 1):ratOf v.d=some v.q/\Pl v.d:=by
  unfold Vl.d
  cases b:v.bare with
  | false=>exact ⟨ratOf_rD v.q,adJ v.q⟩
  | true=>
    refine ⟨?_,abQ⟩
    have h:=hb b
    have e1:((v.q.den:Nat):Int)=1:=by
      unfold rD at h
      injection h with h
      injection h with _ h
      injection h with h _
      injection h
    have e:v.q=(v.q.num:Rat):=by
      apply Rat.ext
      · rfl
      · show v.q.den=1
        omega
    show some ((v.q.num:Int):Rat)=some v.q
    rw [<- e]
theorem pickD {n:Nat} {R:Nat->(Nat->D)->Prop} (h:∀ i,i < n->∃ q,R i q):∃ f:Nat->Nat->D,∀ i,i < n->R i (f i):=
  ⟨fun i=>if z:i < n then (h i z).choose else fun _=>.non,fun i hi=>by
    show R i (if z:i < n then (h i z).choose else fun _=>.non)
    rw [dif_pos hi];exact (h i hi).choose_spec⟩
theorem ak2 {K:PySem.W.Frag} {n:Nat} {val:Str->D} {Q:List Str->Prop} {E:XE'} (q:Q []):NmDo K n [] val Q E:=by
  refine ⟨.nil,by decide,(fun _ h=>by cases h),fun ys hp _=>?_⟩
  have e:ys=[]:=List.length_eq_zero_iff.mp hp.length_eq
  subst e
  exact ⟨fun z h=>(by cases h),fun _=>⟨fun h=>absurd h (by decide),fun _=>⟨fun d h=>(by cases h),fun _=>q⟩⟩⟩
theorem alg {K:PySem.W.Frag} {val:Str->D} {ft ct:D} {n:Nat} {f g:Nat->Nat->Rat} {Q:List (Str × D)->Prop} {E:XE'} (h1:∀ {Q':DV->Prop},Q' (.own (.lst ((List.range n).map fun i=>rowX n fun j=>rD (f i j))))->ChkT K (.str "foot") ft .non Q' E)
    (hi:∃ ds,itemsD ft=some ds/\ds.length=n) (hc:isNonD ct=some false) (h2:∀ {Q':DV->Prop},Q' (.own (.lst ((List.range n).map fun i=>rowX n fun j=>rD (g i j))))->ChkT K (.str "cart") ct (.int (n:Int)) Q' E)
    (q:Q [("own_tables",.lst [tabL n f,tabL n g]),("own_names",.dk [])]):WldT K [] val ft ct Q E:=by
  obtain ⟨ds,hi,hl⟩:=hi
  exact h1 ⟨n,f,ds,rfl,hi,hl,false,hc,fun z=>(by cases z),fun _=>h2 ⟨g,rfl,ak2 q⟩⟩
theorem ahh {K:PySem.W.Frag} {val:Str->D} {ft:D} {n:Nat} {f:Nat->Nat->Rat} {Q:List (Str × D)->Prop} {E:XE'} (h1:∀ {Q':DV->Prop},Q' (.own (.lst ((List.range n).map fun i=>rowX n fun j=>rD (f i j))))->ChkT K (.str "foot") ft .non Q' E)
    (hi:∃ ds,itemsD ft=some ds/\ds.length=n) (q:Q [("own_tables",.lst [tabL n f]),("own_names",.dk [])]):WldT K [] val ft .non Q E:=by
  obtain ⟨ds,hi,hl⟩:=hi
  exact h1 ⟨n,f,ds,rfl,hi,hl,true,rfl,fun _=>ak2 q,fun z=>(by cases z)⟩
theorem afW {K:PySem.W.Frag} {ks:List Str} {val:Str->D} {ft ct:D} {n:Nat} {f:Nat->Nat->Rat} {Q:List (Str × D)->Prop} {E:XE'} (h1:∀ {Q':DV->Prop},Q' (.own (.lst ((List.range n).map fun i=>rowX n fun j=>rD (f i j))))->ChkT K (.str "foot") ft .non Q' E)
    (hi:∃ ds,itemsD ft=some ds/\ds.length=n) (hc:isNonD ct=some false) (h2:∀ {Q':DV->Prop},ChkT K (.str "cart") ct (.int (n:Int)) Q' E):WldT K ks val ft ct Q E:=by
  obtain ⟨ds,hi,hl⟩:=hi
  exact h1 ⟨n,f,ds,rfl,hi,hl,false,hc,fun z=>(by cases z),fun _=>h2⟩
theorem adH (n:Nat) (e:Nat->Nat->D):∃ ds,itemsD (tabX n e)=some ds/\ds.length=n:=⟨_,rfl,by rw [List.length_map,List.length_range]⟩
theorem sm_i {i:Nat} (h:i < 100):Sm 20 0 21 (.int (i:Int)):=amJ (Nat.lt_of_lt_of_le (show (i:Int).natAbs < 10 ^ 3 by omega) (by decide))
theorem sm_s {z:Str} (h:okS z) (hl:z.length<=20):Sm 20 0 202 (.str z):=amI (m:=20) h hl
theorem alp (e:Nat->Nat->D) (x y:Nat) (o:D):setE e x y o x y=o:=by unfold setE;rw [if_pos ⟨rfl,rfl⟩]
structure OddE (x y:Nat) (o:D):Prop where
  pl:Pl o
  b:match ratOf o with
    | none=>True
    | some q=>q < 0\/(x=y/\q≠0)
  nb:∀ q,ratOf o=some q->Nb 1900 q
theorem alM {n x y:Nat} {f:Nat->Nat->Rat} {o:D} (w:TabW n f) (h:OddE x y o):bad1 (setE (fun i j=>rD (f i j)) x y o) x y/\∀ i j,i < n->j < n->bad1 (setE (fun i j=>rD (f i j)) x y o) i j->i=x/\j=y:=by
  refine ⟨?_,fun i j hi hj b=>?_⟩
  · unfold bad1
    rw [alp]
    exact h.b
  · by_cases c:i=x/\j=y
    · exact c
    · have e:setE (fun i j=>rD (f i j)) x y o i j=rD (f i j):=by unfold setE;rw [if_neg c]
      unfold bad1 at b
      rw [e,ratOf_rD] at b
      rcases b with b | ⟨rfl,b⟩
      · exact absurd (w.nn i j hi hj) (Rat.not_le.mpr b)
      · exact absurd (w.dg i hi) b
theorem amV {n x y:Nat} {f:Nat->Nat->Rat} {o:D} (n1:1<=n) (n9:n<=9) (w:TabW n f) (h:OddE x y o):EnOk n (setE (fun i j=>rD (f i j)) x y o):=by
  refine ⟨n1,n9,fun i j hi hj=>?_,fun i j q hi hj=>?_⟩
  · unfold setE;split
    · exact h.pl
    · exact adJ _
  · unfold setE;split
    · exact h.nb q
    · intro e;rw [ratOf_rD] at e;cases e;exact w.nb i j hi hj
theorem nsq {x r:D} {ds:List D} (h:itemsD x=some ds) (m:r∈ds) (q:rowSq ds.length r=false):isSqD x=false:=by
  unfold isSqD
  rw [h]
  dsimp only
  have e:ds.all (rowSq ds.length)=false:=by
    rw [List.all_eq_false]
    exact ⟨r,m,by rw [q];exact Bool.false_ne_true⟩
  rw [e,Bool.and_false]
structure OddX (o:D):Prop where
  pl:PlT o
  sq:isSqD o=false
  k:o=.non\/isNonD o=some false
theorem aeW {x y:Nat} {o:D} (h:o∈[D.int (-1),.non,.bl true,.str "1",.tup [.int 2,.int 2],.tup [.int (-1),.int 2]]):OddE x y o:=by
  simp only [List.mem_cons,List.not_mem_nil,or_false] at h
  rcases h with rfl | rfl | rfl | rfl | rfl | rfl
  · refine ⟨abQ,?_,fun q hq=>?_⟩
    · show ((-1:Int):Rat) < 0\/_
      exact .inl (by decide +kernel)
    · have hq:some ((-1:Int):Rat)=some q:=hq
      cases hq;exact (show Nb 2 _ from ⟨by decide +kernel,by decide +kernel⟩).mono (by decide)
  · exact ⟨ajf,trivial,fun q hq=>by cases hq⟩
  · exact ⟨pl_bl,trivial,fun q hq=>by cases hq⟩
  · exact ⟨akY,trivial,fun q hq=>by cases hq⟩
  · have e:ratOf (.tup [.int 2,.int 2])=none:=by rw [afD];exact if_neg (by decide +kernel)
    exact ⟨aeR (aaH abQ (aaH abQ abP)),by rw [e];trivial,fun q hq=>by rw [e] at hq;cases hq⟩
  · have e:ratOf (.tup [.int (-1),.int 2])=some (Rat.divInt (-1) 2):=by rw [afD];exact if_pos (by decide +kernel)
    refine ⟨aeR (aaH abQ (aaH abQ abP)),by rw [e];exact .inl (by decide +kernel),fun q hq=>?_⟩
    rw [e] at hq;cases hq
    exact (show Nb 2 _ from ⟨by decide +kernel,by decide +kernel⟩).mono (by decide)
theorem alL {x:Nat} {o:D} (h:o∈[D.int (-1),.non,.bl true,.str "1",.tup [.int 2,.int 2],.lst [.int 1,.int 1],.tup [.int (-1),.int 2],.int 1]):OddE x x o:=by
  simp only [List.mem_cons,List.not_mem_nil,or_false] at h
  rcases h with h | h | h | h | h | rfl | h | rfl
  · exact aeW (by simp [h])
  · exact aeW (by simp [h])
  · exact aeW (by simp [h])
  · exact aeW (by simp [h])
  · exact aeW (by simp [h])
  · exact ⟨aeb (aaH abQ (aaH abQ abP)),trivial,fun q hq=>by cases hq⟩
  · exact aeW (by simp [h])
  · refine ⟨abQ,?_,fun q hq=>?_⟩
    · show ((1:Int):Rat) < 0\/_
      exact .inr ⟨rfl,by decide +kernel⟩
    · have hq:some ((1:Int):Rat)=some q:=hq
      cases hq;exact (show Nb 2 _ from ⟨by decide +kernel,by decide +kernel⟩).mono (by decide)
theorem ahq:∀ {xs ys:List D},Pls xs->Pls ys->Pls (xs++ys)
  | [],_,_,h=>h
  | _::_,_,h,h2=>aaH h.hd (ahq h.tl h2)
theorem adX (x:D) (h:Pl x):∀ n:Nat,Pls (List.replicate n x)
  | 0=>abP
  | n + 1=>by rw [List.replicate_succ];exact aaH h (adX x h n)
theorem alK {n:Nat} {f:Nat->Nat->Rat} {o:D} (n1:1<=n) (n4:n<=4) (h:o∈[D.non,.int 3,.lst [],.str "ab",.lst (((List.range n).map fun i=>rowX n fun j=>rD (f i j))++[rowX n fun j=>rD (f 0 j)]),.lst ((List.range n).map fun i=>.lst (((List.range n).map fun j=>rD (f i j))++[.tup [.int 0,.int 1]])),.lst (List.replicate n .non),.lst [.lst []],.lst (List.replicate 10 (.lst (List.replicate 10 (.tup [.int 0,.int 1]))))]):OddX o:=by
  have pr:∀ i,Pl (rowX n fun j=>rD (f i j)):=fun i=>akZ fun j _=>adJ _
  simp only [List.mem_cons,List.not_mem_nil,or_false] at h
  rcases h with rfl | rfl | rfl | rfl | rfl | rfl | rfl | rfl | rfl
  · exact ⟨ajg ajf rfl,rfl,.inl rfl⟩
  · exact ⟨ajg abQ rfl,rfl,.inr rfl⟩
  · exact ⟨acQ abP (by decide),rfl,.inr rfl⟩
  · exact ⟨ajg akY rfl,rfl,.inr rfl⟩
  · refine ⟨acQ (ahq (ac9 fun i _=>pr i) (aaH (pr 0) abP)) (by simp;omega),nsq rfl (List.mem_append_right _ (List.mem_singleton.mpr rfl)) ?_,.inr rfl⟩
    show (((List.range n).map fun j=>rD (f 0 j)).length == _)=false
    rw [beq_eq_false_iff_ne]
    simp
  · refine ⟨acQ (ac9 fun i _=>aeb (ahq (ac9 fun j _=>adJ _) (aaH (aeR (aaH abQ (aaH abQ abP))) abP))) (by simp;omega),nsq rfl (List.mem_map.mpr ⟨0,List.mem_range.mpr n1,rfl⟩) ?_,.inr rfl⟩
    show ((((List.range n).map fun j=>rD (f 0 j))++[D.tup [.int 0,.int 1]]).length == _)=false
    rw [beq_eq_false_iff_ne]
    simp
  · refine ⟨acQ (adX _ ajf n) (by simp;omega),nsq (r:=.non) rfl (List.mem_replicate.mpr ⟨by omega,rfl⟩) rfl,.inr rfl⟩
  · exact ⟨acQ (aaH (aeb abP) abP) (by decide),rfl,.inr rfl⟩
  · exact ⟨acQ (adX _ (aeb (adX _ (aeR (aaH abQ (aaH abQ abP))) 10)) 10) (by decide),rfl,.inr rfl⟩
theorem ahx (ts:List Str):(listText ts).length<=piled ts + 2:=by
  cases ts with
  | nil=>rw [listText_nil];decide
  | cons t r=>
    have h:=textFrom_length_pos r 1 (("[":Str)++(if (0:Nat) > 0 then ", " else "":String)++t) (Nat.succ_pos 0)
    have e:((("[":Str)++(if (0:Nat) > 0 then ", " else "":String)++t)).length=1 + t.length:=by
      rw [strLen_append,strLen_append];rfl
    have hX:(listText (t::r)).length=(textFrom 0 "[" (t::r)).length + 1:=by
      show (textFrom 0 "[" (t::r)++"]").length=_
      rw [strLen_append];rfl
    have hY:(textFrom 0 "[" (t::r)).length=(textFrom 1 (("[":Str)++(if (0:Nat) > 0 then ", " else "":String)++t) r).length:=rfl
    rw [hX,hY,h,e,piled_cons];omega
theorem acy (ts:List Str):(tupleText ts).length<=piled ts + 3:=by
  unfold tupleText
  rw [strLen_append,strLen_append]
  have e1:((("(":String):Str)).length=1:=rfl
  have e3:(((if ts.length == 1 then ",)" else ")":String):Str)).length<=2:=by split<;>decide
  rw [e1]
  by_cases h:ts=[]
  · subst h
    have:(Str.join ", " ([]:List Str)).length=0:=rfl
    omega
  · have:=join_length_add ts h
    omega
def thD (K:PySem.W.Frag) (n:Nat) (f:Nat->Nat->Rat):D->D
  | .non=>.tup [.str "",wld K [tabL n f] []]
  | _=>.tup [.str "InvalidTable",.str "cart"]
theorem aiL {K:PySem.W.Frag} {n:Nat} {f:Nat->Nat->Rat} {o:D} (h:isNonD o=some false):thD K n f o=.tup [.str "InvalidTable",.str "cart"]:=by
  cases o<;>first | rfl | cases h
abbrev asD (K:PySem.W.Frag) (n x y:Nat) (t:D):List D:=[.tup [.str "InvalidWay",.str "foot",.int (x:Int),.int (y:Int)],.tup [.str "InvalidTable",.str "foot"],t,.tup [.str "",.int (n:Int)]]
theorem akM {K:PySem.W.Frag} {n x y:Nat} {f:Nat->Nat->Rat} {Q:DV->Prop} {E:XE'} (n4:n<=4) (hx:x < n) (hy:y < n) (h:Q (.d (.bl true))):spSameI (He.ga K "World") WRp [.d (.lst (asD K n x y (thD K n f .non))),.d (.lst (asD K n x y (thD K n f .non)))] Q E:=by
  have hz:szl=16777216:=rfl
  have lx:=ad1 (b:=20) (i:=(x:Int)) (by omega)
  have ly:=ad1 (b:=20) (i:=(y:Int)) (by omega)
  have ln:=ad1 (b:=20) (i:=(n:Int)) (by omega)
  have l1:=ad1 (b:=20) (i:=((1:Nat):Int)) (by decide)
  have s1:(reprText "InvalidWay").length<=20:=by decide +kernel
  have s2:(reprText "foot").length<=20:=by decide +kernel
  have s3:(reprText "InvalidTable").length<=20:=by decide +kernel
  have s4:(reprText "").length<=20:=by decide +kernel
  refine .inr ⟨_,fun _=>rpW [] n 1,rfl,⟨⟨trivial,trivial,lg20 (by omega),lg20 (by omega),trivial⟩,⟨trivial,trivial,trivial⟩,⟨trivial,⟨rfl,n,f,rfl,by omega,rfl⟩,trivial⟩,⟨trivial,lg20 (by omega),trivial⟩,trivial⟩,.inl ⟨_,rfl⟩,?_,(show (2:Nat)<=8 by decide),h⟩
  have w:(rpW [] n 1).length<=100:=by
    have e:nmT []="-":=rfl
    unfold rpW
    rw [e]
    simp only [aak]
    have q1:("World(":Str).length=6:=rfl
    have q2:("-":Str).length=1:=rfl
    have q3:(", ":Str).length=2:=rfl
    have q4:(" places, ":Str).length=9:=rfl
    have q5:(" layers)":Str).length=8:=rfl
    omega
  show (listText [tupleText [reprText "InvalidWay",reprText "foot",toString (x:Int),toString (y:Int)],tupleText [reprText "InvalidTable",reprText "foot"],tupleText [reprText "",rpW [] n 1],tupleText [reprText "",toString (n:Int)]]).length<=szl
  have h0:=ahx [tupleText [reprText "InvalidWay",reprText "foot",toString (x:Int),toString (y:Int)],tupleText [reprText "InvalidTable",reprText "foot"],tupleText [reprText "",rpW [] n 1],tupleText [reprText "",toString (n:Int)]]
  have h1:=acy [reprText "InvalidWay",reprText "foot",toString (x:Int),toString (y:Int)]
  have h2:=acy [reprText "InvalidTable",reprText "foot"]
  have h3:=acy [reprText "",rpW [] n 1]
  have h4:=acy [reprText "",toString (n:Int)]
  simp only [piled_cons,piled_nil] at h0 h1 h2 h3 h4
  omega
theorem alk (n:Nat):tabX n (fun _ _=>D.int 0)=.lst (List.replicate n (.lst (List.replicate n (.int 0)))):=by
  unfold tabX
  have e:rowX n (fun _=>D.int 0)=.lst (List.replicate n (.int 0)):=by
    unfold rowX
    rw [List.map_const',List.length_range]
  show D.lst ((List.range n).map fun _=>rowX n (fun _=>D.int 0))=_
  rw [e,List.map_const',List.length_range]
theorem amG {n:Nat}:TabW n fun _ _=>0:=⟨fun _ _ _ _=>by decide,fun _ _=>rfl,fun _ _ _ _=>(show Nb 1 (0:Rat) from ⟨by decide,by decide⟩).mono (by decide)⟩
abbrev aiz:List Str:=["_law_script","_law_src","_law_turn","_law_size","_law_table_here","_law_x","_law_y","_law_rows","_law_first","_law_found","_law_odd","_law_asks","_law_due","_law_wide","_law_row","_law_one"]
theorem abq:FnScope aiz ["_law_script"] (defScope adB):=⟨rfl,rfl,rfl,by decide +kernel,rfl,by decide +kernel,by decide +kernel⟩
theorem afw (T:Tx P K mg base a d):Binds K (d abD) ["_law_script"] []:=adq T.F__law_source fun _ _ _ _ _ _ us hl=>match us,hl with | [_],_=>rfl
theorem amU (T:Tx P K mg base a d):FnR P w K mg base 18 (a agn) (d agn) ["_law_script"] (spLaw K):=by
  have G_World___init__:FnR P w K mg base 7 (a aas) (d aas) ["self","names","foot","cart"] (upIn K (He.ga K "World") fun args Q E=>∃ nm:D,∃ ft:D,∃ ct:D,args=[.d nm,.d ft,.d ct]/\(∃ (ks:List Str) (val:Str->D),nm=.dk (kvD ks val)/\WldT K ks val ft ct Q E)):=adZ T
  have G_World_size:FnG P w K mg base 1 (a aaA) (d aaA) ["self"] (sp1 fun me Q _=>∃ (n:Nat) (f:Nat->Nat->Rat) (tabs:List D) (nm:List (Key × D)),me=wld K (tabL n f::tabs) nm/\Q (.d (.int n))):=agc T
  have G__law_bare:FnG P w K mg base 2 (a abB) (d abB) ["_law_src","_law_one"] (sr1 fun x Q _=>∃ q:Rat,x=rD q/\∀ v:Vl,v.q=q->(v.bare=true->rD v.q=rt v.q.num 1)->Q (.d v.d)):=agZ T
  have G__law_draw:FnG P w K mg base 1 (a aau) (d aau) ["_law_src","_law_many"] (spDraw):=acA T
  have G__law_first_wrong:FnG P w K mg base 3 (a aaq) (d aaq) ["_law_table_here"] (sp1 fun x Q _=>∃ (n:Nat) (f:Nat->Nat->Rat),x=tabD n f/\n<=9/\(∀ i j,i < n->j < n->Nb 1900 (f i j))/\(∀ i j,i < n->j < n->bad2 n f i j->(∀ i' j',ahead n i j i' j'->¬ bad2 n f i' j')->Q (.d (.tup [.int (i:Int),.int (j:Int)])))/\((∀ i j,i < n->j < n->¬ bad2 n f i j)->Q (.d .non))):=adD T
  have G__law_of:FnG P w K mg base 2 (a acd) (d acd) ["_law_src","_law_some"] (spOf):=aix T
  have G__law_plus:FnG P w K mg base 2 (a aaL) (d aaL) ["_law_one","_law_other"] (sp2 fun x y Q _=>∃ p q:Rat,x=rD p/\y=rD q/\Nb 3900 p/\Nb 3900 q/\Q (.d (rD (p + q)))):=adb T
  have G__law_same:FnG P w K mg base 14 (a abA) (d abA) ["_law_found","_law_due"] (spSameI (He.ga K "World") WRp):=aga T
  have G__law_table:FnG P w K mg base 4 (a abb) (d abb) ["_law_src","_law_size"] (fun args Q E=>∃ x:D,args=[.src,.d x]/\(∃ n:Nat,x=.int n/\n<=5/\∀ f:Nat->Nat->Rat,TabQ n f->Q (.d (tabD n f)))):=af9 T
  obtain ⟨cc,hcc,hmem⟩:=alU T.F_law (by decide)
  refine amd T.F_law abq (fun vs H Q E h=>?_) (fun cdv hcd A outer s H vs Q E hr hg h=>?_)
  · obtain ⟨c,ns,rfl,_⟩:=h;rfl
  · obtain ⟨c,ns,rfl,hS,hlen,htb,huq,q⟩:=h
    have hcode:cdv=.ref cc:=hcd.symm.trans hcc
    refine ⟨_,pss_cons (ps_set (i:=1) abq.nd rfl (Or.inr rfl) (akm (afq T) (hr.mono (by decide)) hg (by rfl) T.m__law_source T.F__law_source.kp (afw T) (pa_cons (pv 0) pa_nil)))
      (up_ss (fun cls d _ H=>E cls d H) (aah (adh (passes_of rfl) rfl (abY (by rfl) T.n_range (aaa aae aab)) (aaB (i:=2) abq.nd rfl (Or.inl rfl)) (aah (abG (i:=3) abq.nd rfl (Or.inl rfl) (aeh aae (aaf G__law_draw (hr.mono (by decide)) hg (tkOf rfl rfl rfl rfl) (aaE T) (by rfl) T.m__law_draw T.F__law_draw.kp (aaa (aac (pv 1)) (aaa aae aab)))))
      (aah (abG (i:=4) abq.nd rfl (Or.inr rfl) (aaf G__law_table (hr.mono (by decide)) hg (tkOf rfl rfl rfl rfl) (afz T) (by rfl) T.m__law_table T.F__law_table.kp (aaa (aac (pv 1)) (aaa (aac (pv 3)) aab))))
      (aah (ajQ (i:=5) (j:=6) rfl abq.nd rfl rfl (by decide) rfl rfl (aaa (aaf G__law_draw (hr.mono (by decide)) hg (tkOf rfl rfl rfl rfl) (aaE T) (by rfl) T.m__law_draw T.F__law_draw.kp (aaa (aac (pv 1)) (aaa (aac (pv 3)) aab))) (aaa (aaf G__law_draw (hr.mono (by decide)) hg (tkOf rfl rfl rfl rfl) (aaE T) (by rfl) T.m__law_draw T.F__law_draw.kp (aaa (aac (pv 1)) (aaa (aac (pv 3)) aab))) aab)) (by rfl))
      (ajO (n:=6) (i:=7) (own:=[("_law_row",14)]) abq.nd rfl (Or.inr rfl) rfl (acL (aac (pv 4))) (blkOk_by (own:=[("_law_row",14)]) (N:=aiz) (sc:=(defScope adB)) (by decide +kernel)) (fun _ _ _ _ _=>(aaB (i:=14) abq.nd rfl (Or.inl rfl))) (fun _ _ _ _ _=>abF) (fun _ _ _ _ _=>(aeu call_list_of akd (by rfl) T.n_list (by decide +kernel) (aaa (aad (pv 14)) aab)))
      (aah (ajP (pv 7) (aac (pv 5)) (aac (pv 6)) (agu (aeg (abl (adL hr.units) agJ (aad (pv 5)) (aad (pv 6)) (nomark _)) (aaf G__law_plus (hr.mono (by decide)) hg (tkOf rfl rfl rfl rfl) (acW T) (by rfl) T.m__law_plus T.F__law_plus.kp (aaa (aan ix_seq aag (aan ix_seq aag (aad (pv 7)) (aac (pv 5)) (fun _ _=>rfl)) (aac (pv 6)) (fun _ _=>rfl)) (aaa (aaf G__law_of (hr.mono (by decide)) hg (tkOf rfl rfl rfl rfl) (acX T) (by rfl) T.m__law_of T.F__law_of.kp (aaa (aac (pv 1)) (aaa (abd (aaa (aaN (aaa aae (aaa aae aab))) (aaa (aaN (aaa aae (aaa aae aab))) (aaa (aaN (aaa aae (aaa aae aab))) (aaa (aaN (aaa aae (aaa aae aab))) aab))))) aab))) aab))) (aaN (aaa aae (aaa aae aab)))) 7) (fun _ _=>rfl))
      (aah (abG (i:=8) abq.nd rfl (Or.inl rfl) (agu (aaf G__law_first_wrong (hr.mono (by decide)) hg (tkOf rfl rfl rfl rfl) (ads T) (by rfl) T.m__law_first_wrong T.F__law_first_wrong.kp (aaa (aac (pv 7)) aab)) 7))
      (aah (abG (i:=9) abq.nd rfl (Or.inl rfl) (agu (acV T (k:=14) hmem hcode (hr.mono (by decide)) hg (.none rfl rfl (fun _ _ _ _ _ _ _ _=>rfl)) (acU (xs:=[]) (by decide +kernel)) (fun A outer s H E f c' hr hg=>(ahI (adn T.mk_World G_World___init__ (hr.mono (by decide)) hg (tkOf rfl rfl rfl rfl) (aao T) rfl (by rfl) T.m_World (aaa ad3 (aaa (adE (own:=[("_law_row",14)]) rfl abq.nd (acL (aac (pv 7))) (blkOk_by (own:=[("_law_row",14)]) (N:=aiz) (sc:=_) (by kernel_rfl)) (fun _ _ _ _ _=>(aaB (i:=14) abq.nd rfl (Or.inl rfl))) (fun _ _ _ _ _=>abF) (fun _ _ _ _ _=>(adE (own:=[("_law_one",15)]) rfl abq.nd (acL (aac (pv 14))) (blkOk_by (own:=[("_law_one",15)]) (N:=aiz) (sc:=_) (by kernel_rfl)) (fun _ _ _ _ _=>(aaB (i:=15) abq.nd rfl (Or.inl rfl))) (fun _ _ _ _ _=>abF) (fun _ _ _ _ _=>(aaf G__law_bare (hr.mono (by decide)) hg acI (agB T) (by rfl) T.m__law_bare T.F__law_bare.kp (aaa (aac (pv 1)) (aaa (aac (pv 15)) aab))))))) aab)) (ad2 (aac (pv 4)) afN)) T.cl_World T.pr_World_size G_World_size (hr.mono (by decide)) hg (acm T)))) 7))
      (aah (acG (acw (ace (aaf G__law_same (hr.mono (by decide)) hg (tkOf rfl rfl rfl rfl) (acn T) (by rfl) T.m__law_same T.F__law_same.kp (aaa (aac (pv 9)) (aaa (aeg (abl op_isN aiW (aad (pv 8)) acM (nomark _)) (aaN (aaa aa3 (aaa (aac (pv 3)) aab))) (aaN (aaa aa3 (aaa aa3 (aaa (aan ix_seq aag (aad (pv 8)) aae (fun _ _=>rfl)) (aaa (aan ix_seq aag (aad (pv 8)) aae (fun _ _=>rfl)) aab)))))) aab))))) (aai (aat ahd)) abH)
      (aah (acG (akD (DW.dt (aid (abl op_notN aeq (aad (pv 8)) acM (nomark _)) (ags (acw (ace (aaf G__law_same (hr.mono (by decide)) hg (tkOf rfl rfl rfl rfl) (acn T) (by rfl) T.m__law_same T.F__law_same.kp (aaa (acV T (k:=14) hmem hcode (hr.mono (by decide)) hg (.none rfl rfl (fun _ _ _ _ _ _ _ _=>rfl)) (acU (xs:=[]) (by decide +kernel)) (fun A outer s H E f c' hr hg=>(adn T.mk_World G_World___init__ (hr.mono (by decide)) hg (tkOf rfl rfl rfl rfl) (aao T) rfl (by rfl) T.m_World (aaa (ahK (cs:=[("A",0)]) (pps_cons pe_str pe_int pps_nil) rfl rfl (by simp) (by decide) (by decide) (by rfl)) (aaa (aac (pv 4)) aab)) (ad2 (aac (pv 7)) afN)))) (aaa (aaN (aaa aa3 (aaa aa3 (aaa (aan ix_seq aag (aad (pv 8)) aae (fun _ _=>rfl)) (aaa (aan ix_seq aag (aad (pv 8)) aae (fun _ _=>rfl)) aab))))) aab)))))))) 7) (aai (aat ahd)) abH)
      (aai (ajP (pv 7) (aac (pv 5)) (aac (pv 6)) (aeg (abl (ab7 hr.units) adu (aad (pv 5)) (aad (pv 6)) (nomark _)) (aaf G__law_of (hr.mono (by decide)) hg (tkOf rfl rfl rfl rfl) (acX T) (by rfl) T.m__law_of T.F__law_of.kp (aaa (aac (pv 1)) (aaa (abd (aaa (aih aae) (aaa acM (aaa ahd (aaa aa3 (aaa (aaN (aaa aae (aaa aae aab))) (aaa (abd (aaa aae (aaa aae aab))) (aaa (aaN (aaa (aih aae) (aaa aae aab))) (aaa aae aab))))))))) aab))) (aaf G__law_of (hr.mono (by decide)) hg (tkOf rfl rfl rfl rfl) (acX T) (by rfl) T.m__law_of T.F__law_of.kp (aaa (aac (pv 1)) (aaa (abd (aaa (aih aae) (aaa acM (aaa ahd (aaa aa3 (aaa (aaN (aaa aae (aaa aae aab))) (aaa (aaN (aaa (aih aae) (aaa aae aab))) aab))))))) aab)))) (fun _ _=>rfl))))))))
      (aah (abG (i:=10) abq.nd rfl (Or.inr rfl) (aaf G__law_of (hr.mono (by decide)) hg (tkOf rfl rfl rfl rfl) (acX T) (by rfl) T.m__law_of T.F__law_of.kp (aaa (aac (pv 1)) (aaa (abd (aaa acM (aaa aae (aaa (abd aab) (aaa aa3 (aaa (aeh (aad (pv 4)) (abd (aaa (aan ix_seq aag (aad (pv 4)) aae (fun _ _=>rfl)) aab))) (aaa (adE (own:=[("_law_row",14)]) rfl abq.nd (acL (aac (pv 4))) (blkOk_by (own:=[("_law_row",14)]) (N:=aiz) (sc:=(defScope adB)) (by decide +kernel)) (fun _ _ _ _ _=>(aaB (i:=14) abq.nd rfl (Or.inl rfl))) (fun _ _ _ _ _=>abF) (fun _ _ _ _ _=>(aeh (aad (pv 14)) (abd (aaa (aaN (aaa aae (aaa aae aab))) aab))))) (aaa (acf (abd (aaa acM aab)) (aad (pv 3))) (aaa (abd (aaa (abd aab) aab)) (aaa (acf (abd (aaa (acf (abd (aaa (aaN (aaa aae (aaa aae aab))) aab)) aae) aab)) aae) aab)))))))))) aab))))
      (aah (abG (i:=11) abq.nd rfl (Or.inl rfl) (abd (aaa (acV T (k:=14) hmem hcode (hr.mono (by decide)) hg (.none rfl rfl (fun _ _ _ _ _ _ _ _=>rfl)) (acU (xs:=[]) (by decide +kernel)) (fun A outer s H E f c' hr hg=>(adn T.mk_World G_World___init__ (hr.mono (by decide)) hg (tkOf rfl rfl rfl rfl) (aao T) rfl (by rfl) T.m_World (aaa (ahK (cs:=[("A",9)]) (pps_cons pe_str pe_int pps_nil) rfl rfl (by simp) (by decide) (by decide) (by rfl)) (aaa (aac (pv 7)) aab)) (ad2 (aac (pv 10)) afN)))) (aaa (acV T (k:=14) hmem hcode (hr.mono (by decide)) hg (.one rfl rfl (fun _ _ _ _ _ _ _ _ _ _=>⟨_,rfl,rfl⟩)) (acU (xs:=["_law_a"]) (by decide +kernel)) (fun A outer s H E f c' hr hg=>(adn T.mk_World G_World___init__ (hr.mono (by decide)) hg (tkOf rfl rfl rfl rfl) (aao T) rfl (by rfl) T.m_World (aaa (ahK (cs:=[("A",9)]) (pps_cons pe_str pe_int pps_nil) rfl rfl (by simp) (by decide) (by decide) (by rfl)) (aaa (aac (pv 10)) aab)) (ad2 (aac (pv 7)) afN)))) (aaa (acV T (k:=14) hmem hcode (hr.mono (by decide)) hg (.one rfl rfl (fun _ _ _ _ _ _ _ _ _ _=>⟨_,rfl,rfl⟩)) (acU (xs:=["_law_b"]) (by decide +kernel)) (fun A outer s H E f c' hr hg=>(adn T.mk_World G_World___init__ (hr.mono (by decide)) hg (tkOf rfl rfl rfl rfl) (aao T) rfl (by rfl) T.m_World (aaa ad3 (aaa (aac (pv 4)) aab)) (ad2 (aac (pv 10)) afN)))) (aaa (acV T (k:=14) hmem hcode (hr.mono (by decide)) hg (.one rfl rfl (fun _ _ _ _ _ _ _ _ _ _=>⟨_,rfl,rfl⟩)) (acU (xs:=["_law_c"]) (by decide +kernel)) (fun A outer s H E f c' hr hg=>(ahI (ahJ T.mk_World G_World___init__ (hr.mono (by decide)) hg (tkOf rfl rfl rfl rfl) (abZ T) rfl (by rfl) T.m_World (aaa ad3 (aaa (aeu call_tuple_of agH (by rfl) T.n_tuple (by decide +kernel) (aaa (adE (own:=[("_law_row",14)]) rfl abq.nd (acL (aac (pv 4))) (blkOk_by (own:=[("_law_row",14)]) (N:=aiz) (sc:=_) (by kernel_rfl)) (fun _ _ _ _ _=>(aaB (i:=14) abq.nd rfl (Or.inl rfl))) (fun _ _ _ _ _=>abF) (fun _ _ _ _ _=>(aeu call_tuple_of agH (by rfl) T.n_tuple (by decide +kernel) (aaa (aad (pv 14)) aab)))) aab)) aab))) T.cl_World T.pr_World_size G_World_size (hr.mono (by decide)) hg (acm T)))) aab))))))
      (aah (abG (i:=12) abq.nd rfl (Or.inl rfl) (abd (aaa (aaN (aaa aa3 (aaa aa3 (aaa (aac (pv 5)) (aaa (aac (pv 6)) aab))))) (aaa (aaN (aaa aa3 (aaa aa3 aab))) (aaa (aaN (aaa aa3 (aaa aa3 aab))) (aaa (aaN (aaa aa3 (aaa (aac (pv 3)) aab))) aab))))))
      (aah (acG (abl op_isN aiW (aad (pv 10)) acM (nomark _)) (aai (amj (pv 12) aae (aan ix_seq aag (aad (pv 11)) aae (fun _ _=>rfl)))) abH)
      (aai (acG (acw (ace (aaf G__law_same (hr.mono (by decide)) hg (tkOf rfl rfl rfl rfl) (acn T) (by rfl) T.m__law_same T.F__law_same.kp (aaa (aac (pv 11)) (aaa (aac (pv 12)) aab))))) (aai (aat ahd)) abH)))))))))))
      (aah (abG (i:=13) abq.nd rfl (Or.inr rfl) (acf (abd (aaa (acf (abd (aaa aae aab)) aae) aab)) aae))
      (aah (abG (i:=11) abq.nd rfl (Or.inl rfl) (abd (aaa (acV T (k:=14) hmem hcode (hr.mono (by decide)) hg (.none rfl rfl (fun _ _ _ _ _ _ _ _=>rfl)) (acU (xs:=[]) (by decide +kernel)) (fun A outer s H E f c' hr hg=>(ahI (ahJ T.mk_World G_World___init__ (hr.mono (by decide)) hg (tkOf rfl rfl rfl rfl) (abZ T) rfl (by rfl) T.m_World (aaa ad3 (aaa (aac (pv 13)) aab))) T.cl_World T.pr_World_size G_World_size (hr.mono (by decide)) hg (acm T)))) (aaa (acV T (k:=14) hmem hcode (hr.mono (by decide)) hg (.one rfl rfl (fun _ _ _ _ _ _ _ _ _ _=>⟨_,rfl,rfl⟩)) (acU (xs:=["_law_a"]) (by decide +kernel)) (fun A outer s H E f c' hr hg=>(adn T.mk_World G_World___init__ (hr.mono (by decide)) hg (tkOf rfl rfl rfl rfl) (aao T) rfl (by rfl) T.m_World (aaa ad3 (aaa (aac (pv 13)) aab)) (ad2 (abd (aaa (abd (aaa aae aab)) aab)) afN)))) (aaa (acV T (k:=14) hmem hcode (hr.mono (by decide)) hg (.one rfl rfl (fun _ _ _ _ _ _ _ _ _ _=>⟨_,rfl,rfl⟩)) (acU (xs:=["_law_b"]) (by decide +kernel)) (fun A outer s H E f c' hr hg=>(ahJ T.mk_World G_World___init__ (hr.mono (by decide)) hg (tkOf rfl rfl rfl rfl) (abZ T) rfl (by rfl) T.m_World (aaa ad3 (aaa (acf (abd (aaa (acf (abd (aaa aae aab)) aae) aab)) aae) aab))))) aab)))))
      (aai (aat (aaf G__law_same (hr.mono (by decide)) hg (tkOf rfl rfl rfl rfl) (acn T) (by rfl) T.m__law_same T.F__law_same.kp (aaa (aac (pv 11)) (aaa (abd (aaa (aaN (aaa aa3 (aaa aae aab))) (aaa (aaN (aaa aa3 (aaa aa3 aab))) (aaa (aaN (aaa aa3 (aaa aa3 aab))) aab)))) aab))))))))),?_⟩
    refine ⟨.ref c,rfl,c,ns,rfl,hS,hlen,fun H' p c' ms sd ex cp hp hc hm h0 h1=>?_⟩
    refine am1 16 1 rfl rfl q cp hp hc hm h0 h1 (fun q hq=>ex _ _ (htb q hq)) huq ?_
    have hz:szl=16777216:=rfl
    refine abf (fun s=>∃ a2 a3 a4 a5 a6 a7 a8 a9 a10 a11 a12 a13,s=J a2 a3 a4 a5 a6 a7 a8 a9 a10 a11 a12 a13) (fun N' hN'=>?_) (fun s hs=>?_)
    · refine acC (by decide) (by decide) ?_
      refine aic (fun s=>∃ a2 a3 a4 a5 a6 a7 a8 a9 a10 a11 a12 a13,(Ok1 a7/\Ok1 a8/\Ok1 a9/\Ok1 a10/\Ok1 a11/\Ok1 a12/\Ok1 a13)/\s=J a2 a3 a4 a5 a6 a7 a8 a9 a10 a11 a12 a13) _ _ ⟨_,_,_,_,_,_,_,_,_,_,_,_,⟨.n,.n,.n,.n,.n,.n,.n⟩,rfl⟩ (fun N d s hN hd hs=>?_) (fun s ⟨a2,a3,a4,a5,a6,a7,a8,a9,a10,a11,a12,a13,_,e⟩=>hN' s ⟨a2,a3,a4,a5,a6,a7,a8,a9,a10,a11,a12,a13,e⟩)
      obtain ⟨a2,a3,a4,a5,a6,a7,a8,a9,a10,a11,a12,a13,⟨o7,o8,o9,o10,o11,o12,o13⟩,rfl⟩:=hs
      refine adj (fun x=>∃ n:Nat,x=.int n/\1<=n/\n<=4) (fun Q hQ=>?_) (fun x hx=>?_)
      · refine ⟨rfl,rfl,_,rfl,by decide,by decide,fun k h0 h1=>?_⟩
        refine afL ?_
        refine hQ _ ⟨(1 + k).toNat,?_,by omega,by omega⟩
        rw [Int.toNat_of_nonneg (by omega)]
      obtain ⟨n,rfl,n1,n4⟩:=hx
      refine adj (fun x=>∃ f:Nat->Nat->Rat,x=tabD n f/\TabQ n f) (fun Q hQ=>?_) (fun x hx=>?_)
      · exact ⟨rfl,rfl,_,rfl,n,rfl,by omega,fun f hf=>hQ _ ⟨f,rfl,hf⟩⟩
      obtain ⟨f,rfl,hf⟩:=hx
      refine ako (fun u v=>∃ x y:Nat,u=.int x/\v=.int y/\x < n/\y < n) (fun Q hQ=>?_) (fun u v huv=>?_)
      · refine ⟨rfl,rfl,_,rfl,by omega,by omega,fun x x0 x1=>?_⟩
        refine ⟨rfl,rfl,_,rfl,by omega,by omega,fun y y0 y1=>?_⟩
        refine hQ _ _ ⟨x.toNat,y.toNat,?_,?_,by omega,by omega⟩
        · rw [Int.toNat_of_nonneg x0]
        · rw [Int.toNat_of_nonneg y0]
      obtain ⟨x,y,rfl,rfl,hx,hy⟩:=huv
      refine acF (ds:=(List.range n).map fun i=>rowX n fun j=>rD (f i j)) ?_
      refine alT (fun i=>rowX n fun j=>rD (f i j)) (fun i=>(List.range n).map fun j=>rD (f i j)) _ (by rw [List.length_range];omega) (fun i hi M A m=>?_) ?_
      · refine brT ?_
        exact alW (ds:=(List.range n).map fun j=>rD (f i j)) rfl m
      have pl0:=(amR (.d d) (.d (.int (n:Int))) (.d (tabD n f)) (.d (.int (x:Int))) (.d (.int (y:Int))) o7 o8 o9 o10 o11 o12 o13).mu
      refine ⟨pl0.1,pl0.2,fun C ps hps=>?_⟩
      have hps:ps.map (·.2)=tRows n fun i j=>rD (f i j):=hps
      have pl7:∀ (b8 b9:Option DV),Ok1 b8->Ok1 b9->noMu (J (some (.d d)) (some (.d (.int (n:Int)))) (some (.d (tabD n f))) (some (.d (.int (x:Int)))) (some (.d (.int (y:Int)))) none b8 b9 a10 a11 a12 a13)=true:=fun b8 b9 h8 h9=>(amR (.d d) (.d (.int (n:Int))) (.d (tabD n f)) (.d (.int (x:Int))) (.d (.int (y:Int))) .n h8 h9 o10 o11 o12 o13).mu.1
      refine abf (fun s=>∃ q ps1,TabW n (setF f x y q)/\ps1.map (·.1)=ps.map (·.1)/\ps1.map (·.2)=tRows n (fun i j=>rD (setF f x y q i j))/\s=J (some (.d d)) (some (.d (.int (n:Int)))) (some (.d (tabD n f))) (some (.d (.int (x:Int)))) (some (.d (.int (y:Int)))) (some (nestD C ps1)) a8 a9 a10 a11 a12 a13) (fun N2 hN2=>?_) (fun s hs=>?_)
      · refine ajb (fun d=>∃ q,d=rD q/\0<=q/\Nb 1900 q/\(x=y->q=0)) rfl rfl rfl (pl7 _ _ o8 o9) hps hx hy (fun Q hQ=>?_) (fun d ps' hd e1 e2=>?_)
        · refine aeZ rfl (pl7 _ _ o8 o9) hps ?_
          refine aen ?_
          refine br (fun z=>?_) (fun z=>?_)
          · have ne:x≠y:=fun e=>by subst e;simp at z
            refine ag6 (x:=fun i j=>rD (f i j)) hx (ahA hy ?_)
            refine abw rfl rfl (abw rfl rfl (abw rfl rfl (abw rfl rfl (aca rfl rfl ?_))))
            refine ⟨rfl,rfl,_,rfl,(fun o z=>by cases z),(by show 0 < 4;decide),(by show 4<=szl;decide),fun d hd=>?_⟩
            obtain ⟨c,rfl,c0,cb⟩:∃ c:Rat,d=rD c/\0<=c/\Nb 10 c:=by
              simp only [List.mem_cons,List.not_mem_nil,or_false] at hd
              rcases hd with rfl | rfl | rfl | rfl
              · exact ⟨0,rfl,by decide,⟨by decide,by decide⟩⟩
              · exact ⟨1,rfl,by decide,⟨by decide,by decide⟩⟩
              · exact ⟨1 / 3,amO.symm,by decide +kernel,⟨by decide +kernel,by decide +kernel⟩⟩
              · exact ⟨9,rfl,by decide,⟨by decide,by decide⟩⟩
            exact ⟨rfl,rfl,_,_,rfl,f x y,c,rfl,rfl,(hf.nb x y hx hy).mono (by decide),cb.mono (by decide),rfl,_,rfl,rfl,hQ _ ⟨f x y + c,rfl,Rat.add_nonneg (hf.gd.pos x y hx hy) c0,(ag0 (hf.nb x y hx hy) cb).mono (by decide),fun e=>absurd e ne⟩⟩
          · refine abw rfl rfl ⟨rfl,_,rfl,rfl,hQ _ ⟨0,rfl,by decide,(show Nb 1 (0:Rat) from ⟨by decide,by decide⟩).mono (by decide),fun _=>rfl⟩⟩
        · obtain ⟨q,rfl,q0,qn,qd⟩:=hd
          rw [alo] at e2
          exact hN2 _ ⟨q,ps',amL hf q0 qn qd,e1,e2,rfl⟩
      obtain ⟨q1,ps1,hw,e1,hps1,rfl⟩:=hs
      refine adj (fun d=>Fw n (setF f x y q1) d) (fun Q hQ=>?_) (fun fd hfd=>?_)
      · refine aeZ rfl (pl7 _ _ o8 o9) hps1 ?_
        refine ⟨rfl,rfl,_,rfl,n,setF f x y q1,rfl,by omega,hw.nb,fun i j hi hj b al=>?_,fun no=>?_⟩
        · exact ⟨rfl,_,rfl,rfl,hQ _ (.inl ⟨i,j,hi,hj,b,al,rfl⟩)⟩
        · exact ⟨rfl,_,rfl,rfl,hQ _ (.inr ⟨no,rfl⟩)⟩
      refine adz (.tup (foD n fd)) (fun Q hQ=>?_) ?_
      · refine aeZ rfl (pl7 _ _ (.d _) o9) hps1 ?_
        refine acF (ds:=(List.range n).map fun i=>rowX n fun j=>rD (setF f x y q1 i j)) ?_
        refine agi (fun i=>rowX n fun j=>rD (setF f x y q1 i j)) (fun i d=>∃ g:Nat->D,d=rowX n g/\∀ j,j < n->ratOf (g j)=some (setF f x y q1 i j)/\Pl (g j)) _ (by omega) (fun i hi M A hM=>?_) (fun ds hds=>?_)
        · refine brT ?_
          refine acF (ds:=(List.range n).map fun j=>rD (setF f x y q1 i j)) ?_
          refine agi (fun j=>rD (setF f x y q1 i j)) (fun j d=>ratOf d=some (setF f x y q1 i j)/\Pl d) _ (by omega) (fun j hj M' A' hM'=>?_) (fun es hes=>?_)
          · refine brT ?_
            exact ⟨rfl,rfl,_,rfl,setF f x y q1 i j,rfl,fun v hv hb=>hM' _ (hv ▸ vlx hb)⟩
          · exact hM _ ⟨es,rfl,hes⟩
        · obtain ⟨g,hg⟩:=pickD hds
          have e:D.lst ((List.range n).map ds)=tabX n g:=by
            unfold tabX
            congr 1
            exact List.map_congr_left fun i hi=>(hg i (List.mem_range.mp hi)).1
          have he:∀ i j,i < n->j < n->ratOf (g i j)=some (setF f x y q1 i j):=fun i j hi hj=>((hg i hi).2 j hj).1
          have hp:∀ i j,i < n->j < n->Pl (g i j):=fun i j hi hj=>((hg i hi).2 j hj).2
          refine ⟨rfl,rfl,_,_,_,rfl,[],(fun _=>.non),rfl,?_⟩
          show WldT K [] (fun _=>.non) (.lst ((List.range n).map ds)) (tabD n f) _ _
          rw [e]
          have fdo:=hfd
          rcases hfd with ⟨i,j,hi,hj,b,al,rfl⟩ | ⟨no,rfl⟩
          · refine aj0 (ada (by omega) hp) (ad9 n g) (aea n1 (by omega)) n1 (by omega) hw fdo he hp (.inl rfl) ?_
            exact ⟨_,"InvalidWay",[.str "foot",.int (i:Int),.int (j:Int)],rfl,T.xe_InvalidWay,rfl,rfl,rfl,_,rfl,rfl,hQ⟩
          · refine alg (n:=n) (f:=setF f x y q1) (g:=f) (fun q=>adp (ada (by omega) hp) (ad9 n g) (aea n1 (by omega)) n1 (by omega) hw no he hp (.inl rfl) q) (adH n g) rfl (fun q=>adp (ada (by omega) fun i j _ _=>adJ _) (ad9 n _) (aea n1 (by omega)) n1 (by omega) hf.tw (aet hf.gd) (fun i j _ _=>ratOf_rD _) (fun i j _ _=>adJ _) (.inr rfl) q) ?_
            exact ⟨rfl,_,rfl,n,setF f x y q1,_,_,rfl,rfl,_,rfl,rfl,hQ⟩
      refine akL (s':=J (some (.d d)) (some (.d (.int (n:Int)))) (some (.d (tabD n f))) (some (.d (.int (x:Int)))) (some (.d (.int (y:Int)))) (some (nestD C ps1)) (some (.d fd)) (some (.d (.tup (foD n fd)))) a10 a11 a12 a13) (fun Q hQ=>?_) ?_
      · rcases hfd with ⟨i,j,hi,hj,b,al,rfl⟩ | ⟨no,rfl⟩
        · refine ae3 rfl rfl ?_
          refine brF ?_
          refine aaY rfl (aaY rfl (abw rfl rfl ?_))
          exact ⟨rfl,rfl,.inl (aeO rfl (aal (sm_s (acZ _) (by decide)) (aal (sm_s (acZ _) (by decide)) (aal (sm_i (i:=i) (by omega)) (aal (sm_i (i:=j) (by omega)) ach)))) hQ)⟩
        · refine ae3 rfl rfl ?_
          refine brT ?_
          refine abw rfl rfl ?_
          exact ⟨rfl,rfl,.inl (aeO rfl (aal (sm_s (acZ _) (by decide)) (aal (sm_i (i:=n) (by omega)) ach)) hQ)⟩
      refine abf (fun s=>s=J (some (.d d)) (some (.d (.int (n:Int)))) (some (.d (tabD n f))) (some (.d (.int (x:Int)))) (some (.d (.int (y:Int)))) (some (nestD C ps1)) (some (.d fd)) (some (.d (.tup (foD n fd)))) a10 a11 a12 a13) (fun N2 hN2=>?_) (fun s hs=>?_)
      · refine aiE rfl (pl7 _ _ (.d _) (.d _)) hps1 ?_
        have fdo:=hfd
        rcases hfd with ⟨i,j,hi,hj,b,al,rfl⟩ | ⟨no,rfl⟩
        · refine ae3 rfl rfl ?_
          refine brT ?_
          refine ⟨rfl,rfl,_,_,_,rfl,[("A":Str)],(fun _=>.int 0),rfl,?_⟩
          refine afW (n:=n) (f:=f) (fun q=>adp (ada (by omega) fun i j _ _=>adJ _) (ad9 n _) (aea n1 (by omega)) n1 (by omega) hf.tw (aet hf.gd) (fun i j _ _=>ratOf_rD _) (fun i j _ _=>adJ _) (.inl rfl) q) (adH n _) rfl (fun {_}=>aj0 (ada (by omega) fun i j _ _=>adJ _) (ad9 n _) (aea n1 (by omega)) n1 (by omega) hw fdo (fun i j _ _=>ratOf_rD _) (fun i j _ _=>adJ _) (.inr rfl) ?_)
          refine ⟨_,"InvalidWay",[.str "cart",.int (i:Int),.int (j:Int)],rfl,T.xe_InvalidWay,rfl,rfl,?_⟩
          refine aaY rfl (aaY rfl (abw rfl rfl ?_))
          refine ⟨rfl,rfl,.inl (aeO rfl (aal (sm_s (acZ _) (by decide)) (aal (sm_s (acZ _) (by decide)) (aal (sm_i (i:=i) (by omega)) (aal (sm_i (i:=j) (by omega)) ach)))) ?_)⟩
          refine aa7 ?_
          exact ⟨rfl,brF (hN2 _ rfl)⟩
        · refine ae3 rfl rfl ?_
          refine brF ?_
          exact ⟨rfl,brF (hN2 _ rfl)⟩
      subst hs
      refine ajb (OddE x y) rfl rfl rfl (pl7 _ _ (.d _) (.d _)) hps1 hx hy (fun Q hQ=>?_) (fun o ps2 ho e2 hps2=>?_)
      · refine aen ?_
        refine br (fun z=>?_) (fun z=>?_)
        · have e:x=y:=by have:=of_decide_eq_true z;omega
          subst e
          refine akx (abw rfl rfl (aca rfl rfl (akx (abw rfl rfl (aca rfl rfl ?_)))))
          exact ⟨rfl,rfl,_,rfl,(fun o z=>by cases z),(by show 0 < 8;decide),(by show 8<=szl;decide),fun o ho=>hQ _ (alL ho)⟩
        · refine akx (abw rfl rfl (akx (abw rfl rfl (aca rfl rfl ?_))))
          exact ⟨rfl,rfl,_,rfl,(fun o z=>by cases z),(by show 0 < 6;decide),(by show 6<=szl;decide),fun o ho=>hQ _ (aeW ho)⟩
      refine ⟨ps2,rfl,e2.trans e1,pl7 _ _ (.d _) (.d _),?_⟩
      rw [af5 hps2]
      have ob:=alM hw ho
      have oe:=amV n1 (by omega) hw ho
      refine adj OddX (fun Q hQ=>?_) (fun od hod=>?_)
      · refine aca rfl rfl ?_
        refine ag6 (x:=fun i j=>rD (f i j)) (i:=0) (by omega) (aca rfl rfl ?_)
        refine ak6 (ds:=(List.range n).map fun i=>rowX n fun j=>rD (f i j)) (es:=[rowX n fun j=>rD (f 0 j)]) rfl rfl (by simp;omega) ?_
        refine acF (ds:=(List.range n).map fun i=>rowX n fun j=>rD (f i j)) ?_
        refine ajy (fun i=>rowX n fun j=>rD (f i j)) (fun i=>.lst (((List.range n).map fun j=>rD (f i j))++[.tup [.int 0,.int 1]])) _ (by omega) (fun i hi M A m=>?_) ?_
        · refine brT ?_
          refine abw rfl rfl (aca rfl rfl ?_)
          exact ak6 (ds:=(List.range n).map fun j=>rD (f i j)) (es:=[.tup [.int 0,.int 1]]) rfl rfl (by simp;omega) m
        refine aca rfl rfl ?_
        refine ae1 (ds:=[.non]) rfl (by omega) (by omega) (by show 1 * _<=szl;omega) ?_
        rw [Int.toNat_natCast,acz]
        refine aca rfl rfl (aca rfl rfl ?_)
        refine abw rfl rfl (aca rfl rfl ?_)
        refine ae1 (ds:=[.tup [.int 0,.int 1]]) rfl (by decide) (by decide) (by show 1 * 10<=szl;decide) ?_
        rw [show (10:Int).toNat=10 from rfl,acz]
        refine aca rfl rfl ?_
        refine ae1 (ds:=[.lst (List.replicate 10 (.tup [.int 0,.int 1]))]) rfl (by decide) (by decide) (by show 1 * 10<=szl;decide) ?_
        rw [show (10:Int).toNat=10 from rfl,acz]
        refine aca rfl rfl ?_
        exact ⟨rfl,rfl,_,rfl,(fun o z=>by cases z),(by show 0 < 9;decide),(by show 9<=szl;decide),fun o ho=>hQ _ (alK n1 n4 ho)⟩
      have gT:∀ {sz:D} {ly:D} {Q':DV->Prop} {E':XE'},(sz=.non\/sz=.int (n:Int))->Q' (.own (.lst ((List.range n).map fun i=>rowX n fun j=>rD (f i j))))->ChkT K ly (tabD n f) sz Q' E':=fun hs q=>adp (ada (by omega) fun i j _ _=>adJ _) (ad9 n _) (aea n1 (by omega)) n1 (by omega) hf.tw (aet hf.gd) (fun i j _ _=>ratOf_rD _) (fun i j _ _=>adJ _) hs q
      refine aep (asD K n x y (thD K n f od)) (fun Q hQ=>?_) ?_
      · refine ⟨rfl,rfl,_,_,_,rfl,[("A":Str)],(fun _=>.int 9),rfl,?_⟩
        refine amt (ada (by omega) oe.pl) (ad9 n _) (aea n1 (by omega)) oe hx hy ob.1 ob.2 (.inl rfl) ?_
        refine ⟨_,"InvalidWay",[.str "foot",.int (x:Int),.int (y:Int)],rfl,T.xe_InvalidWay,rfl,rfl,?_⟩
        refine ⟨rfl,rfl,_,_,_,rfl,[("A":Str)],(fun _=>.int 9),rfl,?_⟩
        refine agw hod.pl (ahl hod.sq) (.inl rfl) ?_
        refine ⟨_,"InvalidTable",[.str "foot"],rfl,T.xe_InvalidTable,rfl,rfl,?_⟩
        refine ⟨rfl,rfl,_,_,_,rfl,[],(fun _=>.non),rfl,?_⟩
        rcases hod.k with e | hk
        all_goals first
          | (subst e
             refine ahh (n:=n) (f:=f) (gT (.inl rfl)) (adH n _) ?_)
          | (rw [aiL hk] at hQ
             refine afW (n:=n) (f:=f) (gT (.inl rfl)) (adH n _) hk (fun {_}=>agw hod.pl (ahl hod.sq) (.inr ⟨_,rfl⟩) ?_)
             refine ⟨_,"InvalidTable",[.str "cart"],rfl,T.xe_InvalidTable,rfl,rfl,?_⟩)
        all_goals
          refine acF (ds:=(List.range n).map fun i=>rowX n fun j=>rD (f i j)) ?_
          refine ajy (fun i=>rowX n fun j=>rD (f i j)) (fun i=>.tup ((List.range n).map fun j=>rD (f i j))) _ (by omega) (fun i hi M A m=>?_) ?_
          · refine brT ?_
            exact ah7 (ds:=(List.range n).map fun j=>rD (f i j)) rfl m
          refine ah7 (ds:=(List.range n).map fun i=>.tup ((List.range n).map fun j=>rD (f i j))) rfl ?_
          refine ⟨rfl,rfl,_,_,_,rfl,[],(fun _=>.non),rfl,?_⟩
          refine ahh (n:=n) (f:=f) (fun q=>adp (e:=fun i j=>rD (f i j)) (alF (ac9 fun i _=>aeR (ac9 fun j _=>adJ _)) (by simp;omega)) ⟨fun i=>.tup ((List.range n).map fun j=>rD (f i j)),rfl,fun _ _=>rfl⟩
            (ahT (rs:=fun i=>.tup ((List.range n).map fun j=>rD (f i j))) rfl n1 (by omega) fun i _=>⟨_,rfl,by rw [List.length_map,List.length_range]⟩) n1 (by omega) hf.tw (aet hf.gd) (fun i j _ _=>ratOf_rD _) (fun i j _ _=>adJ _) (.inl rfl) q) ⟨_,rfl,by rw [List.length_map,List.length_range]⟩ ?_
          refine ⟨rfl,_,rfl,n,f,_,_,rfl,?_⟩
          exact aca rfl rfl hQ
      refine aep (asD K n x y (.tup [.str "InvalidTable",.str "cart"])) (fun Q hQ=>?_) ?_
      · exact abw rfl rfl (abw rfl rfl (abw rfl rfl (abw rfl rfl (aca rfl rfl hQ))))
      refine abf (fun s=>s=J (some (.d d)) (some (.d (.int (n:Int)))) (some (.d (tabD n f))) (some (.d (.int (x:Int)))) (some (.d (.int (y:Int)))) (some (.d (tabX n (setE (fun i j=>rD (setF f x y q1 i j)) x y o)))) (some (.d fd)) (some (.d (.tup (foD n fd)))) (some (.d od)) (some (.own (.lst (asD K n x y (thD K n f od))))) (some (.own (.lst (asD K n x y (thD K n f od))))) a13) (fun N2 hN2=>?_) (fun s hs=>?_)
      · rcases hod.k with e | hk
        · subst e
          refine ae3 rfl rfl ?_
          refine brT ?_
          refine agl (ds:=asD K n x y (thD K n f .non)) rfl rfl ?_
          exact ⟨_,rfl,_,rfl,2,rfl,hN2 _ rfl⟩
        · refine ae3 rfl hk ?_
          refine brF (hN2 _ ?_)
          rw [aiL hk];rfl
      subst hs
      refine akK (s':=J (some (.d d)) (some (.d (.int (n:Int)))) (some (.d (tabD n f))) (some (.d (.int (x:Int)))) (some (.d (.int (y:Int)))) (some (.d (tabX n (setE (fun i j=>rD (setF f x y q1 i j)) x y o)))) (some (.d fd)) (some (.d (.tup (foD n fd)))) (some (.d od)) (some (.d (.lst (asD K n x y (thD K n f od))))) (some (.d (.lst (asD K n x y (thD K n f od))))) a13) (fun Q hQ=>?_) (hN _ ⟨_,_,_,_,_,_,_,_,_,_,_,_,⟨.d _,.d _,.d _,.d _,.d _,.d _,o13⟩,rfl⟩)
      refine ⟨rfl,rfl,?_⟩
      rcases hod.k with e | hk
      · subst e
        exact akM n4 hx hy hQ
      · rw [aiL hk] at hQ ⊢
        exact .inl (agS rfl (aal (aeK (aal (sm_s (acZ _) (by decide)) (aal (sm_s (acZ _) (by decide)) (aal (sm_i (i:=x) (by omega)) (aal (sm_i (i:=y) (by omega)) ach))))) (aal (aeK (aal (sm_s (acZ _) (by decide)) (aal (sm_s (acZ _) (by decide)) ach))) (aal (aeK (aal (sm_s (acZ _) (by decide)) (aal (sm_s (acZ _) (by decide)) ach))) (aal (aeK (aal (sm_s (acZ _) (by decide)) (aal (sm_i (i:=n) (by omega)) ach))) ach)))) hQ)
    obtain ⟨a2,a3,a4,a5,a6,a7,a8,a9,a10,a11,a12,a13,rfl⟩:=hs
    refine aep (List.replicate 9 (.lst (List.replicate 9 (.int 0)))) (fun Q hQ=>?_) ?_
    · refine aca rfl rfl ?_
      refine ae1 (ds:=[.int 0]) rfl (by decide) (by decide) (by show 1 * 9<=szl;decide) ?_
      rw [show (9:Int).toNat=9 from rfl,acz]
      refine aca rfl rfl ?_
      refine ae1 (ds:=[.lst (List.replicate 9 (.int 0))]) rfl (by decide) (by decide) (by show 1 * 9<=szl;decide) ?_
      rw [show (9:Int).toNat=9 from rfl,acz]
      exact hQ
    have g0:∀ {sz ly:D} {Q':DV->Prop} {E':XE'},(sz=.non\/sz=.int ((9:Nat):Int))->Q' (.own (.lst ((List.range 9).map fun i=>rowX 9 fun j=>rD ((fun _ _=>0:Nat->Nat->Rat) i j))))->ChkT K ly (.lst (List.replicate 9 (.lst (List.replicate 9 (.int 0))))) sz Q' E':=fun hs q=>by
      rw [<- alk]
      exact adp (f:=fun _ _=>0) (ada (by decide) fun i j _ _=>abQ) (ad9 9 _) (aea (by decide) (by decide)) (by decide) (by decide) amG (fun i j _ _ ⟨k,_,l⟩=>absurd (show (0:Rat) + 0 < 0 from l) (by decide +kernel)) (fun i j _ _=>rfl) (fun i j _ _=>abQ) hs q
    refine akc (s':=J a2 a3 a4 a5 a6 a7 a8 a9 a10 a11 a12 (some (.d (.lst (List.replicate 9 (.lst (List.replicate 9 (.int 0)))))))) (fun ds=>ds=[.tup [.str "",.int ((9:Nat):Int)],.tup [.str "InvalidTable",.str "cart"],.tup [.str "InvalidTable",.str "foot"]]) (fun Q hQ=>?_) (fun ds hds=>?_)
    · refine ⟨rfl,rfl,_,_,_,rfl,[],(fun _=>.non),rfl,?_⟩
      refine ahh (n:=9) (f:=fun _ _=>0) (g0 (.inl rfl)) ⟨_,rfl,rfl⟩ ?_
      refine ⟨rfl,_,rfl,9,(fun _ _=>0),_,_,rfl,?_⟩
      refine aca rfl rfl (aca rfl rfl ?_)
      refine ⟨rfl,rfl,_,_,_,rfl,[],(fun _=>.non),rfl,?_⟩
      refine afW (n:=9) (f:=fun _ _=>0) (g0 (.inl rfl)) ⟨_,rfl,rfl⟩ rfl (fun {_}=>agw (acQ (aaH (aeb (aaH abQ abP)) abP) (by decide)) rfl (.inr ⟨_,rfl⟩) ?_)
      refine ⟨_,"InvalidTable",[.str "cart"],rfl,T.xe_InvalidTable,rfl,rfl,?_⟩
      refine aca rfl rfl ?_
      refine ae1 (ds:=[.int 0]) rfl (by decide) (by decide) (by show 1 * 10<=szl;decide) ?_
      rw [show (10:Int).toNat=10 from rfl,acz]
      refine aca rfl rfl ?_
      refine ae1 (ds:=[.lst (List.replicate 10 (.int 0))]) rfl (by decide) (by decide) (by show 1 * 10<=szl;decide) ?_
      rw [show (10:Int).toNat=10 from rfl,acz]
      refine ⟨rfl,rfl,_,_,_,rfl,[],(fun _=>.non),rfl,?_⟩
      refine agw (acQ (adX _ (aeb (adX _ abQ 10)) 10) (by decide)) (ahl rfl) (.inl rfl) ?_
      refine ⟨_,"InvalidTable",[.str "foot"],rfl,T.xe_InvalidTable,rfl,rfl,?_⟩
      exact aca rfl rfl (hQ _ rfl)
    subst hds
    refine abw rfl rfl (abw rfl rfl (abw rfl rfl (aca rfl rfl ?_)))
    refine ⟨rfl,rfl,.inl (agS rfl (aal (aeK (aal (sm_s (acZ _) (by decide)) (aal (sm_i (i:=9) (by decide)) ach))) (aal (aeK (aal (sm_s (acZ _) (by decide)) (aal (sm_s (acZ _) (by decide)) ach))) (aal (aeK (aal (sm_s (acZ _) (by decide)) (aal (sm_s (acZ _) (by decide)) ach))) ach))) rfl)⟩
end
section
variable {P:Program} {w:World} {K:PySem.W.Frag} {mg:Str->Option Value} {base:Heap} {a:Nat->Addr} {d:Nat->FuncData}
theorem aez:ExT (defBody aaw) (defArgs aaw) (defScope aaw) "self" ["given"] abU where
  shape:=⟨_,_,_,_,_,_,_,_,_,rfl,(.con (fun _=>rfl) (.var (fun _=>rfl) (by decide) .nil)),fun _=>⟨_,rfl⟩,fun env h=>by unfold interactive;simp [Env.blockKind,h]<;>rfl,fun _=>rfl⟩
  head:=⟨_,rfl,rfl⟩
  ks:=by decide +kernel
  kc:=by decide +kernel
  loc:=by decide +kernel
  kind:=rfl
  co:=rfl
  gen:=rfl
  cell:=by decide +kernel
  flds:=by intro f hf x hx;simp at hf;first | (subst hf;cases hx;simp) | (rcases hf with rfl | rfl<;>cases hx<;>simp) | (rcases hf with rfl | rfl | rfl<;>cases hx<;>simp) | (rcases hf with rfl | rfl | rfl | rfl<;>cases hx<;>simp)
  nod:=by decide +kernel
  sd:=by decide
  len:=by decide
theorem aeG (e:Addr) (us:List Value) (hl:us.length=(["given"]:List Str).length) (name qual:Str) (doc pm:Value) (an:Option Addr) (cda ct:Value) (cc:Addr):bindArgs (PySem.W.ksFn name qual (defArgs aaw) (defBody aaw) (defScope aaw) .none .none doc pm an cda ct cc) ⟨.ref e::us,[]⟩=pure (((("self":Str)::(["given"]:List Str))).zip (.ref e::us)):=
  match us,hl with
  | [u0],_=>rfl
theorem aey:ExT (defBody aav) (defArgs aav) (defScope aav) "self" ["layer"] abT where
  shape:=⟨_,_,_,_,_,_,_,_,_,rfl,(.con (fun _=>rfl) (.var (fun _=>rfl) (by decide) .nil)),fun _=>⟨_,rfl⟩,fun env h=>by unfold interactive;simp [Env.blockKind,h]<;>rfl,fun _=>rfl⟩
  head:=⟨_,rfl,rfl⟩
  ks:=by decide +kernel
  kc:=by decide +kernel
  loc:=by decide +kernel
  kind:=rfl
  co:=rfl
  gen:=rfl
  cell:=by decide +kernel
  flds:=by intro f hf x hx;simp at hf;first | (subst hf;cases hx;simp) | (rcases hf with rfl | rfl<;>cases hx<;>simp) | (rcases hf with rfl | rfl | rfl<;>cases hx<;>simp) | (rcases hf with rfl | rfl | rfl | rfl<;>cases hx<;>simp)
  nod:=by decide +kernel
  sd:=by decide
  len:=by decide
theorem aeF (e:Addr) (us:List Value) (hl:us.length=(["layer"]:List Str).length) (name qual:Str) (doc pm:Value) (an:Option Addr) (cda ct:Value) (cc:Addr):bindArgs (PySem.W.ksFn name qual (defArgs aav) (defBody aav) (defScope aav) .none .none doc pm an cda ct cc) ⟨.ref e::us,[]⟩=pure (((("self":Str)::(["layer"]:List Str))).zip (.ref e::us)):=
  match us,hl with
  | [u0],_=>rfl
theorem afS:ExT (defBody aaO) (defArgs aaO) (defScope aaO) "self" ["layer","start","goal"] ack where
  shape:=⟨_,_,_,_,_,_,_,_,_,rfl,(.con (fun _=>rfl) (.var (fun _=>rfl) (by decide) (.var (fun _=>rfl) (by decide) (.var (fun _=>rfl) (by decide) .nil)))),fun _=>⟨_,rfl⟩,fun env h=>by unfold interactive;simp [Env.blockKind,h]<;>rfl,fun _=>rfl⟩
  head:=⟨_,rfl,rfl⟩
  ks:=by decide +kernel
  kc:=by decide +kernel
  loc:=by decide +kernel
  kind:=rfl
  co:=rfl
  gen:=rfl
  cell:=by decide +kernel
  flds:=by intro f hf x hx;simp at hf;first | (subst hf;cases hx;simp) | (rcases hf with rfl | rfl<;>cases hx<;>simp) | (rcases hf with rfl | rfl | rfl<;>cases hx<;>simp) | (rcases hf with rfl | rfl | rfl | rfl<;>cases hx<;>simp)
  nod:=by decide +kernel
  sd:=by decide
  len:=by decide
theorem afV (e:Addr) (us:List Value) (hl:us.length=(["layer","start","goal"]:List Str).length) (name qual:Str) (doc pm:Value) (an:Option Addr) (cda ct:Value) (cc:Addr):bindArgs (PySem.W.ksFn name qual (defArgs aaO) (defBody aaO) (defScope aaO) .none .none doc pm an cda ct cc) ⟨.ref e::us,[]⟩=pure (((("self":Str)::(["layer","start","goal"]:List Str))).zip (.ref e::us)):=
  match us,hl with
  | [u0,u1,u2],_=>rfl
theorem aio:ExT (defBody abC) (defArgs abC) (defScope abC) "self" ["subject","most"] adi where
  shape:=⟨_,_,_,_,_,_,_,_,_,rfl,(.con (fun _=>rfl) (.var (fun _=>rfl) (by decide) (.var (fun _=>rfl) (by decide) .nil))),fun _=>⟨_,rfl⟩,fun env h=>by unfold interactive;simp [Env.blockKind,h]<;>rfl,fun _=>rfl⟩
  head:=⟨_,rfl,rfl⟩
  ks:=by decide +kernel
  kc:=by decide +kernel
  loc:=by decide +kernel
  kind:=rfl
  co:=rfl
  gen:=rfl
  cell:=by decide +kernel
  flds:=by intro f hf x hx;simp at hf;first | (subst hf;cases hx;simp) | (rcases hf with rfl | rfl<;>cases hx<;>simp) | (rcases hf with rfl | rfl | rfl<;>cases hx<;>simp) | (rcases hf with rfl | rfl | rfl | rfl<;>cases hx<;>simp)
  nod:=by decide +kernel
  sd:=by decide
  len:=by decide
theorem air (e:Addr) (us:List Value) (hl:us.length=(["subject","most"]:List Str).length) (name qual:Str) (doc pm:Value) (an:Option Addr) (cda ct:Value) (cc:Addr):bindArgs (PySem.W.ksFn name qual (defArgs abC) (defBody abC) (defScope abC) .none .none doc pm an cda ct cc) ⟨.ref e::us,[]⟩=pure (((("self":Str)::(["subject","most"]:List Str))).zip (.ref e::us)):=
  match us,hl with
  | [u0,u1],_=>rfl
theorem afj:ExT (defBody aaD) (defArgs aaD) (defScope aaD) "self" ["given"] ab5 where
  shape:=⟨_,_,_,_,_,_,_,_,_,rfl,(.con (fun _=>rfl) (.var (fun _=>rfl) (by decide) .nil)),fun _=>⟨_,rfl⟩,fun env h=>by unfold interactive;simp [Env.blockKind,h]<;>rfl,fun _=>rfl⟩
  head:=⟨_,rfl,rfl⟩
  ks:=by decide +kernel
  kc:=by decide +kernel
  loc:=by decide +kernel
  kind:=rfl
  co:=rfl
  gen:=rfl
  cell:=by decide +kernel
  flds:=by intro f hf x hx;simp at hf;first | (subst hf;cases hx;simp) | (rcases hf with rfl | rfl<;>cases hx<;>simp) | (rcases hf with rfl | rfl | rfl<;>cases hx<;>simp) | (rcases hf with rfl | rfl | rfl | rfl<;>cases hx<;>simp)
  nod:=by decide +kernel
  sd:=by decide
  len:=by decide
theorem afm (e:Addr) (us:List Value) (hl:us.length=(["given"]:List Str).length) (name qual:Str) (doc pm:Value) (an:Option Addr) (cda ct:Value) (cc:Addr):bindArgs (PySem.W.ksFn name qual (defArgs aaD) (defBody aaD) (defScope aaD) .none .none doc pm an cda ct cc) ⟨.ref e::us,[]⟩=pure (((("self":Str)::(["given"]:List Str))).zip (.ref e::us)):=
  match us,hl with
  | [u0],_=>rfl
theorem aeA:ExT (defBody aax) (defArgs aax) (defScope aax) "self" ["given"] abV where
  shape:=⟨_,_,_,_,_,_,_,_,_,rfl,(.con (fun _=>rfl) (.var (fun _=>rfl) (by decide) .nil)),fun _=>⟨_,rfl⟩,fun env h=>by unfold interactive;simp [Env.blockKind,h]<;>rfl,fun _=>rfl⟩
  head:=⟨_,rfl,rfl⟩
  ks:=by decide +kernel
  kc:=by decide +kernel
  loc:=by decide +kernel
  kind:=rfl
  co:=rfl
  gen:=rfl
  cell:=by decide +kernel
  flds:=by intro f hf x hx;simp at hf;first | (subst hf;cases hx;simp) | (rcases hf with rfl | rfl<;>cases hx<;>simp) | (rcases hf with rfl | rfl | rfl<;>cases hx<;>simp) | (rcases hf with rfl | rfl | rfl | rfl<;>cases hx<;>simp)
  nod:=by decide +kernel
  sd:=by decide
  len:=by decide
theorem aeH (e:Addr) (us:List Value) (hl:us.length=(["given"]:List Str).length) (name qual:Str) (doc pm:Value) (an:Option Addr) (cda ct:Value) (cc:Addr):bindArgs (PySem.W.ksFn name qual (defArgs aax) (defBody aax) (defScope aax) .none .none doc pm an cda ct cc) ⟨.ref e::us,[]⟩=pure (((("self":Str)::(["given"]:List Str))).zip (.ref e::us)):=
  match us,hl with
  | [u0],_=>rfl
theorem facts {w:World} {K:PySem.W.Frag} {h:Heap} {mg:Str->Option Value} {f:Addr} (X:K.In h) (G:h.Ns mainGlobals mg) (hfa:mg ("law":Str)=some (.ref f)) (c:SaysZ lyL faL fnL h K) :
    ∃ fd:FuncData,(∀ (s:Shared) (v:Value),BindsTo s fd ⟨[v],[]⟩ [("_law_script",v)])/\∀ base:Heap,K.In base->base.Ns mainGlobals mg->(∀ q∈lamFns K,LamX.TabB base mg q.1 q.2.1)->FnR PySem.Challenge.rw_missingmiles_k14_tables_of_worlds_refuse.prog w K mg base 18 f fd ["_law_script"] (spLaw K):=by
  obtain ⟨fd0,F0⟩:=c.s.def_ 0 (d:=df0) rfl
  obtain ⟨fd1,F1⟩:=c.s.def_ 1 (d:=df1) rfl
  obtain ⟨fd2,F2⟩:=c.s.def_ 2 (d:=df2) rfl
  obtain ⟨fd3,F3⟩:=c.s.def_ 3 (d:=df3) rfl
  obtain ⟨fd4,F4⟩:=c.s.def_ 4 (d:=df4) rfl
  obtain ⟨fd5,F5⟩:=c.s.def_ 5 (d:=df5) rfl
  obtain ⟨fd6,F6⟩:=c.s.def_ 6 (d:=df6) rfl
  obtain ⟨fd7,F7⟩:=c.s.def_ 7 (d:=df7) rfl
  obtain ⟨fd8,F8⟩:=c.s.def_ 8 (d:=df8) rfl
  obtain ⟨fd9,F9⟩:=c.s.def_ 9 (d:=df9) rfl
  obtain ⟨fd10,F10⟩:=c.s.def_ 10 (d:=df10) rfl
  obtain ⟨fd11,F11⟩:=c.s.def_ 11 (d:=df11) rfl
  obtain ⟨fd12,F12⟩:=c.s.def_ 12 (d:=df12) rfl
  obtain ⟨fd13,F13⟩:=c.s.def_ 13 (d:=df13) rfl
  obtain ⟨fd16,F16⟩:=c.s.def_ 14 (d:=df16) rfl
  obtain ⟨fd17,F17⟩:=c.s.def_ 15 (d:=df17) rfl
  obtain ⟨fd18,F18⟩:=c.s.def_ 16 (d:=df18) rfl
  obtain ⟨fd19,F19⟩:=c.s.def_ 17 (d:=df19) rfl
  obtain ⟨fd20,F20⟩:=c.s.def_ 18 (d:=df20) rfl
  obtain ⟨fd21,F21⟩:=c.s.def_ 19 (d:=df21) rfl
  obtain ⟨fd22,F22⟩:=c.s.def_ 20 (d:=df22) rfl
  obtain ⟨fd23,F23⟩:=c.s.def_ 21 (d:=df23) rfl
  obtain ⟨fd24,F24⟩:=c.s.def_ 22 (d:=df24) rfl
  obtain ⟨fd25,F25⟩:=c.s.def_ 23 (d:=df25) rfl
  obtain ⟨fd26,F26⟩:=c.s.def_ 24 (d:=df26) rfl
  obtain ⟨fd27,F27⟩:=c.s.def_ 25 (d:=df27) rfl
  obtain ⟨fd28,F28⟩:=c.s.def_ 26 (d:=df28) rfl
  obtain ⟨fd29,F29⟩:=c.s.def_ 27 (d:=df29) rfl
  obtain ⟨fd30,F30⟩:=c.s.def_ 28 (d:=df30) rfl
  obtain ⟨fd31,F31⟩:=c.s.def_ 29 (d:=df31) rfl
  obtain ⟨fd32,F32⟩:=c.s.def_ 30 (d:=df32) rfl
  obtain ⟨fd33,F33⟩:=c.s.def_ 31 (d:=df33) rfl
  obtain ⟨fd34,F34⟩:=c.s.def_ 32 (d:=df34) rfl
  have Pp14:=c.pr ps14 (List.mem_of_getElem? (i:=0) rfl)
  obtain ⟨fd14,F14⟩:=Pp14.f
  have Pp15:=c.pr ps15 (List.mem_of_getElem? (i:=1) rfl)
  obtain ⟨fd15,F15⟩:=Pp15.f
  have e:=hfa.symm.trans (He.glo_ok X G (c.s.fact 32 (f:=.glo "law") rfl))
  cases e
  have su:=He.free_ok X G (c.s.fact 58 (f:=.free "super") rfl)
  have X0:=c.x ac1 (List.mem_of_getElem? (i:=0) rfl)
  have X1:=c.x ac0 (List.mem_of_getElem? (i:=1) rfl)
  have X2:=c.x adG (List.mem_of_getElem? (i:=2) rfl)
  have X3:=c.x afB (List.mem_of_getElem? (i:=3) rfl)
  have X4:=c.x adt (List.mem_of_getElem? (i:=4) rfl)
  have X5:=c.x ac2 (List.mem_of_getElem? (i:=5) rfl)
  have T:∀ base:Heap,(∀ q∈lamFns K,LamX.TabB base mg q.1 q.2.1)->Tx PySem.Challenge.rw_missingmiles_k14_tables_of_worlds_refuse.prog K mg base (fun i=>match i with | 0=>He.ga K "is_whole" | 1=>He.ga K "is_number" | 2=>He.ga K "is_ratio" | 3=>He.ga K "is_valued" | 4=>He.ga K "lowest" | 5=>He.ga K "ratio_of" | 6=>He.ga K "plus" | 7=>He.ga K "below" | 8=>He.ga K "is_name" | 9=>He.ga K "is_square" | 10=>He.ga K "first_fault" | 11=>He.ga K "checked_table" | 12=>He.ga K "checked_places" | 13=>He.ma K (He.ga K "World") "__init__" | 14=>gAt K (He.ga K "World") "size" | 15=>gAt K (He.ga K "World") "layers" | 16=>He.ma K (He.ga K "World") "names" | 17=>He.ga K "names_text" | 18=>He.ma K (He.ga K "World") "__repr__" | 19=>He.ga K "_law_source" | 20=>He.ga K "_law_draw" | 21=>He.ga K "_law_of" | 22=>He.ga K "_law_same" | 23=>He.ga K "_law_fields" | 24=>He.ga K "_law_ask" | 25=>He.ga K "_law_low" | 26=>He.ga K "_law_plus" | 27=>He.ga K "_law_less" | 28=>He.ga K "_law_least" | 29=>He.ga K "_law_length" | 30=>He.ga K "_law_bare" | 31=>He.ga K "_law_closed" | 32=>He.ga K "_law_table" | 33=>He.ga K "_law_first_wrong" | 34=>He.ga K "law" | _=>0) (fun i=>match i with | 0=>fd0 | 1=>fd1 | 2=>fd2 | 3=>fd3 | 4=>fd4 | 5=>fd5 | 6=>fd6 | 7=>fd7 | 8=>fd8 | 9=>fd9 | 10=>fd10 | 11=>fd11 | 12=>fd12 | 13=>fd13 | 14=>fd14 | 15=>fd15 | 16=>fd16 | 17=>fd17 | 18=>fd18 | 19=>fd19 | 20=>fd20 | 21=>fd21 | 22=>fd22 | 23=>fd23 | 24=>fd24 | 25=>fd25 | 26=>fd26 | 27=>fd27 | 28=>fd28 | 29=>fd29 | 30=>fd30 | 31=>fd31 | 32=>fd32 | 33=>fd33 | 34=>fd34 | _=>fd0):=fun base tb=>
    { tb:=tb
      F_is_whole:=F0
      m_is_whole:=He.glo_ok X G (c.s.fact 0 (f:=.glo "is_whole") rfl)
      F_is_number:=F1
      m_is_number:=He.glo_ok X G (c.s.fact 1 (f:=.glo "is_number") rfl)
      F_is_ratio:=F2
      m_is_ratio:=He.glo_ok X G (c.s.fact 2 (f:=.glo "is_ratio") rfl)
      F_is_valued:=F3
      m_is_valued:=He.glo_ok X G (c.s.fact 3 (f:=.glo "is_valued") rfl)
      F_lowest:=F4
      m_lowest:=He.glo_ok X G (c.s.fact 4 (f:=.glo "lowest") rfl)
      F_ratio_of:=F5
      m_ratio_of:=He.glo_ok X G (c.s.fact 5 (f:=.glo "ratio_of") rfl)
      F_plus:=F6
      m_plus:=He.glo_ok X G (c.s.fact 6 (f:=.glo "plus") rfl)
      F_below:=F7
      m_below:=He.glo_ok X G (c.s.fact 7 (f:=.glo "below") rfl)
      F_is_name:=F8
      m_is_name:=He.glo_ok X G (c.s.fact 8 (f:=.glo "is_name") rfl)
      F_is_square:=F9
      m_is_square:=He.glo_ok X G (c.s.fact 9 (f:=.glo "is_square") rfl)
      F_first_fault:=F10
      m_first_fault:=He.glo_ok X G (c.s.fact 10 (f:=.glo "first_fault") rfl)
      F_checked_table:=F11
      m_checked_table:=He.glo_ok X G (c.s.fact 11 (f:=.glo "checked_table") rfl)
      F_checked_places:=F12
      m_checked_places:=He.glo_ok X G (c.s.fact 12 (f:=.glo "checked_places") rfl)
      F_World___init__:=F13
      mk_World:=He.mkr_ok (c.s.fact 13 (f:=.mkr "World") rfl)
      F_World_size:=F14
      pr_World_size:=Pp14.p rfl
      F_World_layers:=F15
      pr_World_layers:=Pp15.p rfl
      F_World_names:=F16
      me_World_names:=He.meth_ok (c.s.fact 14 (f:=.meth "World" "names") rfl)
      F_names_text:=F17
      m_names_text:=He.glo_ok X G (c.s.fact 15 (f:=.glo "names_text") rfl)
      F_World___repr__:=F18
      me_World___repr__:=He.meth_ok (c.s.fact 16 (f:=.meth "World" "__repr__") rfl)
      F__law_source:=F19
      m__law_source:=He.glo_ok X G (c.s.fact 17 (f:=.glo "_law_source") rfl)
      F__law_draw:=F20
      m__law_draw:=He.glo_ok X G (c.s.fact 18 (f:=.glo "_law_draw") rfl)
      F__law_of:=F21
      m__law_of:=He.glo_ok X G (c.s.fact 19 (f:=.glo "_law_of") rfl)
      F__law_same:=F22
      m__law_same:=He.glo_ok X G (c.s.fact 20 (f:=.glo "_law_same") rfl)
      F__law_fields:=F23
      m__law_fields:=He.glo_ok X G (c.s.fact 21 (f:=.glo "_law_fields") rfl)
      F__law_ask:=F24
      m__law_ask:=He.glo_ok X G (c.s.fact 22 (f:=.glo "_law_ask") rfl)
      F__law_low:=F25
      m__law_low:=He.glo_ok X G (c.s.fact 23 (f:=.glo "_law_low") rfl)
      F__law_plus:=F26
      m__law_plus:=He.glo_ok X G (c.s.fact 24 (f:=.glo "_law_plus") rfl)
      F__law_less:=F27
      m__law_less:=He.glo_ok X G (c.s.fact 25 (f:=.glo "_law_less") rfl)
      F__law_least:=F28
      m__law_least:=He.glo_ok X G (c.s.fact 26 (f:=.glo "_law_least") rfl)
      F__law_length:=F29
      m__law_length:=He.glo_ok X G (c.s.fact 27 (f:=.glo "_law_length") rfl)
      F__law_bare:=F30
      m__law_bare:=He.glo_ok X G (c.s.fact 28 (f:=.glo "_law_bare") rfl)
      F__law_closed:=F31
      m__law_closed:=He.glo_ok X G (c.s.fact 29 (f:=.glo "_law_closed") rfl)
      F__law_table:=F32
      m__law_table:=He.glo_ok X G (c.s.fact 30 (f:=.glo "_law_table") rfl)
      F__law_first_wrong:=F33
      m__law_first_wrong:=He.glo_ok X G (c.s.fact 31 (f:=.glo "_law_first_wrong") rfl)
      F_law:=F34
      m_World:=He.glo_ok X G (c.s.fact 33 (f:=.glo "World") rfl)
      cl_World:=He.cls_ok (c.s.fact 34 (f:=.cls "World") rfl)
      na_World_own_tables:=He.noat_ok (c.s.fact 35 (f:=.noat "World" "own_tables") rfl)
      na_World_own_names:=He.noat_ok (c.s.fact 36 (f:=.noat "World" "own_names") rfl)
      x_InvalidRatio:=X0.cls aez (by decide +kernel) (by decide +kernel) aeG (by intro f hf;simp at hf;rcases hf with rfl | rfl<;>decide) (fun vs z=>by cases z) su (by decide)
      xe_InvalidRatio:=X0.r rfl
      x_InvalidTable:=X1.cls aey (by decide +kernel) (by decide +kernel) aeF (by intro f hf;simp at hf;rcases hf with rfl | rfl<;>decide) (fun vs z=>by cases z) su (by decide)
      xe_InvalidTable:=X1.r rfl
      x_InvalidWay:=X2.cls afS (by decide +kernel) (by decide +kernel) afV (by intro f hf;simp at hf;rcases hf with rfl | rfl | rfl | rfl<;>decide) (fun vs z=>by cases z) su (by decide)
      xe_InvalidWay:=X2.r rfl
      x_TooMany:=X3.cls aio (by decide +kernel) (by decide +kernel) air (by intro f hf;simp at hf;rcases hf with rfl | rfl | rfl<;>decide) (fun vs z=>by cases z) su (by decide)
      xe_TooMany:=X3.r rfl
      x_InvalidName:=X4.cls afj (by decide +kernel) (by decide +kernel) afm (by intro f hf;simp at hf;rcases hf with rfl | rfl<;>decide) (fun vs z=>by cases z) su (by decide)
      xe_InvalidName:=X4.r rfl
      x_InvalidPlace:=X5.cls aeA (by decide +kernel) (by decide +kernel) aeH (by intro f hf;simp at hf;rcases hf with rfl | rfl<;>decide) (fun vs z=>by cases z) su (by decide)
      xe_InvalidPlace:=X5.r rfl
      m_InvalidRatio:=He.glo_ok X G (c.s.fact 37 (f:=.glo "InvalidRatio") rfl)
      m_InvalidTable:=He.glo_ok X G (c.s.fact 38 (f:=.glo "InvalidTable") rfl)
      m_InvalidWay:=He.glo_ok X G (c.s.fact 39 (f:=.glo "InvalidWay") rfl)
      m_TooMany:=He.glo_ok X G (c.s.fact 40 (f:=.glo "TooMany") rfl)
      m_InvalidName:=He.glo_ok X G (c.s.fact 41 (f:=.glo "InvalidName") rfl)
      m_InvalidPlace:=He.glo_ok X G (c.s.fact 42 (f:=.glo "InvalidPlace") rfl)
      m_MilesError:=He.glo_ok X G (c.s.fact 43 (f:=.glo "MilesError") rfl)
      m_Missing:=He.glo_ok X G (c.s.fact 44 (f:=.glo "Missing") rfl)
      m_NothingLeft:=He.glo_ok X G (c.s.fact 45 (f:=.glo "NothingLeft") rfl)
      n_abs:=He.free_ok X G (c.s.fact 46 (f:=.free "abs") rfl)
      n_all:=He.free_ok X G (c.s.fact 47 (f:=.free "all") rfl)
      n_any:=He.free_ok X G (c.s.fact 48 (f:=.free "any") rfl)
      n_bool:=He.free_ok X G (c.s.fact 49 (f:=.free "bool") rfl)
      n_int:=He.free_ok X G (c.s.fact 50 (f:=.free "int") rfl)
      n_isinstance:=He.free_ok X G (c.s.fact 51 (f:=.free "isinstance") rfl)
      n_len:=He.free_ok X G (c.s.fact 52 (f:=.free "len") rfl)
      n_list:=He.free_ok X G (c.s.fact 53 (f:=.free "list") rfl)
      n_range:=He.free_ok X G (c.s.fact 54 (f:=.free "range") rfl)
      n_repr:=He.free_ok X G (c.s.fact 55 (f:=.free "repr") rfl)
      n_sorted:=He.free_ok X G (c.s.fact 56 (f:=.free "sorted") rfl)
      n_str:=He.free_ok X G (c.s.fact 57 (f:=.free "str") rfl)
      n_super:=He.free_ok X G (c.s.fact 58 (f:=.free "super") rfl)
      n_tuple:=He.free_ok X G (c.s.fact 59 (f:=.free "tuple") rfl)
      b_gcd:=c.blt X G 0 rfl
      c_ZERO:=c.glob X G 0 rfl
      c_LETTERS:=c.glob X G 1 rfl
      c_MOST_NAMED:=c.glob X G 2 rfl
      c_MOST_PLACES:=c.glob X G 3 rfl }
  exact ⟨fd34,aj2 F34 fun _ _ _ _ _ _ u=>rfl,fun base _ _ tb=>amU (T base tb)⟩
end
end K14
open PySem PySem.W PySem.Calls PyProof.Rows in
set_option maxRecDepth 100000 in
set_option maxHeartbeats 0 in
theorem PySem.Challenge.cw_missingmiles_k14_tables_of_worlds_refuse_holds : PySem.Challenge.rw_missingmiles_k14_tables_of_worlds_refuse.Holds := by
  w_on;o_law
  refine HandSHeadRun.head_imp (r:=OpenLaw.row PySem.Challenge.rw_missingmiles_k14_tables_of_worlds_refuse) (q:=K14.qv) (H:=K14.hk) (ob:=K14.ob) (M:=9000) (loose:=K14.names) (d:=HandSHeadRun.topDef (OpenLaw.row PySem.Challenge.rw_missingmiles_k14_tables_of_worlds_refuse).prog 54) (kwd:=[]) K14.ob_eq
    K14.run (by kernel_rfl) (by kernel_rfl) (by kernel_rfl) (by rfl) (by first | assumption | decide +kernel) (by decide +kernel) ⟨rfl,rfl,rfl,rfl,rfl,by decide +kernel⟩ ?hw ?hc
  case hw=>w_witness2
  case hc=>
    refine DL.aj6 (l:=PySem.Challenge.rw_missingmiles_k14_tables_of_worlds_refuse) (n:=63) (k:=18) (x:="_law_script") rfl (by decide) (by kernel_rfl) ⟨rfl,by decide,by decide⟩ ?F
    intro w mg fa h Y G hmg0
    obtain ⟨K,KX,c⟩:=Y
    have hmg:mg ("law":PySem.Str)=some (.ref fa):=by
      have e:(HandSHeadRun.topDef (OpenLaw.row PySem.Challenge.rw_missingmiles_k14_tables_of_worlds_refuse).prog 54).name=("law":PySem.Str):=by kernel_rfl
      rw [<- e]
      exact hmg0
    obtain ⟨fd,hb,hF⟩:=K14.facts (w:=w) KX G hmg c
    exact ⟨K,fd,DL.spLaw K,KX,hb,c.te,c.tn,c.tc,fun H a ns hl hT hS=>⟨a,ns,rfl,hS,hl,hT,c.tu,fun _=>rfl⟩,hF⟩
