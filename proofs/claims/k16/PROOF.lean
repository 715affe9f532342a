import PyProof.Rows.All
import Wide.All
import OpenK.AllK
import Wide.FinOn
import HandS.ForMost
import HandS.Exc
import HandS.TryOnly
import HandS.ExcOwn
import HandS.WordsExc
import HandS.CallSlots
import HandS.Walk
import HandS.Wide
import HandS.Gcd
import HandS.IsInst
import HandS.Defaults
import HandS.Lambda
import HandS.EndTab
import HandS.ExcCtx
import HandS.HotCalls
import HandS.ExcField
import KE.KExcSuper
import KE.KTryMore
import HandS.HeadHook4
import HandS.TupAny
import HandS.Deep
import HandS.RaiseMore
import HandS.Flow
import HandS.Zip
import KE.KStateDown
import HandS.Head0
import HandS.Head1
import HandS.Head2
import HandS.Head3
import HandS.HeadEnd
import HandS.HeadHook1
import HandS.HeadHook2
import HandS.MakeKwOnly
import HandS.Style
import HandS.TupLe
import KE.GoesZip
import KE.GoesMore
import HandS.ExcValue
import HandS.ExcInit
import KE.KDflt
import HandS.Star
import HandS.FStr
import HandS.Property
import HandS.ClsMeth
import HandS.Small
import PyProof.MeetsIn
import HandS.Strs
import HandS.More
import HandS.Conv
import PyProof.ListStr
import HandS.Text
import HandS.StrMore
import PyProof.StrBlock2
import KE.SortData
import HandS.SortInts
import KE.SortKeyed
import HandS.Keys
import HandS.SortKw
import KE.KDictPairs
import KE.KEqDict
import HandS.DictTup
import HandS.ListItems
import HandS.DictComp
import HandS.TupSets
import HandS.SetBool
import KE.KUnpackStar
import KE.KDictZip
import HandS.TupMul
import HandS.Finally
import HandS.OwnEq
import KE.KEqNest
import PySem.Challenge.RW_missingmiles_k16_parts_of_worlds
set_option Elab.async false
set_option linter.all false
set_option maxRecDepth 100000
set_option autoImplicit false
set_option maxHeartbeats 2000000
namespace DL
open PySem PySem.Spec PyProof.Rows L2
inductive D where
  | non | bl (b:Bool) | int (i:Int) | str (x:Str)
  | lst (ds:List D) | tup (ds:List D)
  | ins (C:Addr) (fs:List (Str × D))
  | dk (kvs:List (Key × D)) | dt (kvs:List (List Key × D))
  | any
  | raw (v:V)
  | kt (ks:List Key)
abbrev Ex (H H':Hp):Prop:=∀ a o,H a=some o->H' a=some o
theorem Ex.refl (H:Hp):Ex H H:=fun _ _ h=>h
theorem Ex.trans {H H1 H2:Hp} (a:Ex H H1) (b:Ex H1 H2):Ex H H2:=fun x o h=>b x o (a x o h)
theorem Ex.new {H:Hp} {p:Addr} {o:HO} (h:H p=none):Ex H (upd H p o):=fun a u e=>by
  rw [upd_ne (ne_of_none e h)];exact e
theorem Ex.up {G H:Hp} {p:Addr} {o:HO} (e:Ex G H):Ex (upd G p o) (upd H p o):=fun a u h=>by
  by_cases q:a=p
  · subst q;rw [upd_same] at h ⊢;exact h
  · rw [upd_ne q] at h ⊢;exact e a u h
theorem Ex.free {G H:Hp} (e:Ex G H) {a:Addr} (h:H a=none):G a=none:=by
  cases q:G a with
  | none=>rfl
  | some o=>rw [e a o q] at h;cases h
theorem aoH {H H':Hp} {a:Addr} {u:HO} (e:Ex H H') (h:Rd H a u):Rd H' a u:=by
  rcases h with h | ⟨o,h⟩
  · exact Or.inl (e a _ h)
  · exact Or.inr ⟨o,e a _ h⟩
theorem ex_l {K:PySem.W.Frag} {H H':Hp} {a:Addr} {xs:List V} (e:Ex H H') (h:SqL K H a xs):SqL K H' a xs:=by
  rcases h with h | h
  · exact Or.inl (aoH e h)
  · exact Or.inr h
theorem ex_t {K:PySem.W.Frag} {H H':Hp} {a:Addr} {xs:List V} (e:Ex H H') (h:SqT K H a xs):SqT K H' a xs:=by
  rcases h with h | h
  · exact Or.inl (aoH e h)
  · exact Or.inr h
mutual
inductive DOk (K:PySem.W.Frag) (G:Hp):V->D->Prop
  | non:DOk K G .non .non
  | bl (b:Bool):DOk K G (.bl b) (.bl b)
  | int (i:Int):DOk K G (.int i) (.int i)
  | str (x:Str):DOk K G (.str x) (.str x)
  | lst {a:Addr} {vs:List V} {ds:List D}:G a=some (.lst vs)->DAll K G vs ds->DOk K G (.ref a) (.lst ds)
  | tup {a:Addr} {vs:List V} {ds:List D}:SqT K G a vs->DAll K G vs ds->DOk K G (.ref a) (.tup ds)
  | ins {a C dx:Addr} {vs:List (Str × V)} {fs:List (Str × D)}:G a=some (.ins C dx vs)->G dx=some (.own a)->FAll K G vs fs->DOk K G (.ref a) (.ins C fs)
  | any (v:V):DOk K G v .any
  | dk {a:Addr} {o:Obj} {vs:List (Key × V)} {fs:List (Key × D)}:G a=some (.frz o (.dK vs))->FAll K G vs fs->DOk K G (.ref a) (.dk fs)
  | dt {a:Addr} {o:Obj} {vs:List (List Key × V)} {fs:List (List Key × D)}:G a=some (.frz o (.dT vs))->FAll K G vs fs->DOk K G (.ref a) (.dt fs)
  | raw (v:V):DOk K G v (.raw v)
  | kt {a:Addr} {ks:List Key}:G a=some (.tup (ks.map kV))->DOk K G (.ref a) (.kt ks)
inductive DAll (K:PySem.W.Frag) (G:Hp):List V->List D->Prop
  | nil:DAll K G [] []
  | cons {v:V} {d:D} {vs:List V} {ds:List D}:DOk K G v d->DAll K G vs ds->DAll K G (v::vs) (d::ds)
inductive FAll (K:PySem.W.Frag) (G:Hp):{κ:Type}->List (κ × V)->List (κ × D)->Prop
  | nil {κ:Type}:FAll K G (κ:=κ) [] []
  | cons {κ:Type} {x:κ} {v:V} {d:D} {vs:List (κ × V)} {ds:List (κ × D)}:DOk K G v d->FAll K G vs ds->FAll K G ((x,v)::vs) ((x,d)::ds)
end
section
variable {K:PySem.W.Frag} {G G':Hp}
mutual
theorem DOk.mono (e:Ex G G'):∀ {v:V} {d:D},DOk K G v d->DOk K G' v d
  | _,_,.non=>.non
  | _,_,.bl b=>.bl b
  | _,_,.int i=>.int i
  | _,_,.str x=>.str x
  | _,_,.lst h a=>.lst (e _ _ h) (DAll.mono e a)
  | _,_,.tup h a=>.tup (ex_t e h) (DAll.mono e a)
  | _,_,.ins h h2 a=>.ins (e _ _ h) (e _ _ h2) (FAll.mono e a)
  | _,_,.any v=>.any v
  | _,_,.dk h a=>.dk (e _ _ h) (FAll.mono e a)
  | _,_,.dt h a=>.dt (e _ _ h) (FAll.mono e a)
  | _,_,.raw v=>.raw v
  | _,_,.kt h=>.kt (e _ _ h)
theorem DAll.mono (e:Ex G G'):∀ {vs:List V} {ds:List D},DAll K G vs ds->DAll K G' vs ds
  | _,_,.nil=>.nil
  | _,_,.cons h t=>.cons (DOk.mono e h) (DAll.mono e t)
theorem FAll.mono (e:Ex G G'):∀ {κ:Type} {vs:List (κ × V)} {ds:List (κ × D)},FAll K G vs ds->FAll K G' vs ds
  | _,_,_,.nil=>.nil
  | _,_,_,.cons h t=>.cons (DOk.mono e h) (FAll.mono e t)
end
theorem DAll.length:∀ {vs:List V} {ds:List D},DAll K G vs ds->vs.length=ds.length
  | _,_,.nil=>rfl
  | _,_,.cons _ t=>congrArg (· + 1) (DAll.length t)
theorem DAll.get:∀ {vs:List V} {ds:List D} {i:Nat} {d:D},DAll K G vs ds->ds[i]?=some d->∃ v,vs[i]?=some v/\DOk K G v d
  | _,_,_,_,.nil,e=>by simp at e
  | _,_,0,_,.cons h _,e=>by simp at e;subst e;exact ⟨_,rfl,h⟩
  | _,_,i + 1,_,.cons _ t,e=>by
    obtain ⟨v,h1,h2⟩:=DAll.get (i:=i) t (by simpa using e)
    exact ⟨v,by simpa using h1,h2⟩
theorem DAll.getV:∀ {vs:List V} {ds:List D} {i:Nat} {v:V},DAll K G vs ds->vs[i]?=some v->∃ d,ds[i]?=some d/\DOk K G v d
  | _,_,_,_,.nil,e=>by simp at e
  | _,_,0,_,.cons h _,e=>by simp at e;subst e;exact ⟨_,rfl,h⟩
  | _,_,i + 1,_,.cons _ t,e=>by
    obtain ⟨v,h1,h2⟩:=DAll.getV (i:=i) t (by simpa using e)
    exact ⟨v,by simpa using h1,h2⟩
theorem DAll.append:∀ {vs ws:List V} {ds es:List D},DAll K G vs ds->DAll K G ws es->DAll K G (vs++ws) (ds++es)
  | _,_,_,_,.nil,s=>s
  | _,_,_,_,.cons h t,s=>.cons h (DAll.append t s)
theorem DAll.take:∀ {vs:List V} {ds:List D} (n:Nat),DAll K G vs ds->DAll K G (vs.take n) (ds.take n)
  | _,_,0,_=>by rw [List.take_zero,List.take_zero];exact .nil
  | _,_,_ + 1,.nil=>.nil
  | _,_,n + 1,.cons h t=>.cons h (DAll.take n t)
theorem DAll.drop:∀ {vs:List V} {ds:List D} (n:Nat),DAll K G vs ds->DAll K G (vs.drop n) (ds.drop n)
  | _,_,0,r=>r
  | _,_,_ + 1,.nil=>.nil
  | _,_,n + 1,.cons _ t=>DAll.drop n t
theorem DAll.set {v:V} {d:D} (r:DOk K G v d):∀ {vs:List V} {ds:List D} (i:Nat),DAll K G vs ds->DAll K G (vs.set i v) (ds.set i d)
  | _,_,_,.nil=>.nil
  | _,_,0,.cons _ t=>.cons r t
  | _,_,i + 1,.cons q t=>.cons q (DAll.set r i t)
theorem FAll.look {κ:Type} [BEq κ]:∀ {vs:List (κ × V)} {fs:List (κ × D)} {f:κ} {d:D},FAll K G vs fs->fs.lookup f=some d->∃ v,vs.lookup f=some v/\DOk K G v d
  | _,_,_,_,.nil,e=>by simp at e
  | _,_,f,d,.cons (x:=x) h t,e=>by
    rw [List.lookup_cons] at e
    rw [List.lookup_cons]
    cases q:f == x with
    | true=>rw [q] at e;cases e;exact ⟨_,rfl,h⟩
    | false=>rw [q] at e;exact FAll.look t e
theorem FAll.lookN {κ:Type} [BEq κ]:∀ {vs:List (κ × V)} {fs:List (κ × D)} {f:κ},FAll K G vs fs->fs.lookup f=none->vs.lookup f=none
  | _,_,_,.nil,_=>rfl
  | _,_,f,.cons (x:=x) h t,e=>by
    rw [List.lookup_cons] at e ⊢
    cases q:f == x with
    | true=>rw [q] at e;cases e
    | false=>rw [q] at e;exact FAll.lookN t e
end
inductive OO where
  | lst (ds:List D)
  | ins (x C:Addr) (fs:List (Str × D))
  | dk (kvs:List (Key × D)) | dt (kvs:List (List Key × D))
structure GR where
  as:List Addr
  R:PySem.W.Frag->Hp->Hp->Prop
  st:∀ K G G' H H',Ex G G'->(∀ a∈as,H' a=H a)->R K G H->R K G' H'
inductive DV where
  | d (x:D) | src | own (o:OO) | bor (o:OO) | see (o:OO)
  | mu (x C:Addr) (fs:List (Str × D))
  | gh (x:Addr) (r:GR)
def OwnOk (K:PySem.W.Frag) (G H:Hp) (a:Addr):OO->Prop
  | .lst ds=>∃ vs,H a=some (.lst vs)/\DAll K G vs ds
  | .ins x C fs=>a=x/\∃ dx vs,H a=some (.ins C dx vs)/\G dx=some (.own a)/\FAll K G vs fs
  | .dk kvs=>∃ vs,H a=some (.dK vs)/\FAll K G vs kvs
  | .dt kvs=>∃ vs,H a=some (.dT vs)/\FAll K G vs kvs
theorem OwnOk.there {K:PySem.W.Frag} {G H:Hp} {a:Addr} {o:OO} (h:OwnOk K G H a o):H a≠none:=by
  cases o with
  | lst ds=>obtain ⟨vs,e,_⟩:=h;rw [e];simp
  | ins x C fs=>obtain ⟨_,dx,vs,e,_⟩:=h;rw [e];simp
  | dk kvs=>obtain ⟨vs,e,_⟩:=h;rw [e];simp
  | dt kvs=>obtain ⟨vs,e,_⟩:=h;rw [e];simp
theorem OwnOk.keep {K:PySem.W.Frag} {G H G' H':Hp} {a:Addr} {o:OO} (h:OwnOk K G H a o) (e:Ex G G') (k:H' a=H a):OwnOk K G' H' a o:=by
  cases o with
  | lst ds=>obtain ⟨vs,q,r⟩:=h;exact ⟨vs,by rw [k];exact q,r.mono e⟩
  | ins x C fs=>obtain ⟨ex,dx,vs,q,g,r⟩:=h;exact ⟨ex,dx,vs,by rw [k];exact q,e _ _ g,r.mono e⟩
  | dk kvs=>obtain ⟨vs,q,r⟩:=h;exact ⟨vs,by rw [k];exact q,r.mono e⟩
  | dt kvs=>obtain ⟨vs,q,r⟩:=h;exact ⟨vs,by rw [k];exact q,r.mono e⟩
def BorOk (K:PySem.W.Frag) (G H:Hp) (a:Addr):OO->Prop
  | .dk kvs=>∃ o vs,H a=some (.frz o (.dK vs))/\FAll K G vs kvs
  | .dt kvs=>∃ o vs,H a=some (.frz o (.dT vs))/\FAll K G vs kvs
  | .lst ds=>OwnOk K G H a (.lst ds)
  | .ins x C fs=>OwnOk K G H a (.ins x C fs)
theorem BorOk.there {K:PySem.W.Frag} {G H:Hp} {a:Addr} {o:OO} (h:BorOk K G H a o):H a≠none:=by
  cases o with
  | lst ds=>exact OwnOk.there (K:=K) (G:=G) (o:=.lst ds) h
  | ins x C fs=>exact OwnOk.there (K:=K) (G:=G) (o:=.ins x C fs) h
  | dk kvs=>obtain ⟨o,vs,e,_⟩:=h;rw [e];simp
  | dt kvs=>obtain ⟨o,vs,e,_⟩:=h;rw [e];simp
theorem BorOk.keep {K:PySem.W.Frag} {G H G' H':Hp} {a:Addr} {o:OO} (h:BorOk K G H a o) (e:Ex G G') (k:H' a=H a):BorOk K G' H' a o:=by
  cases o with
  | lst ds=>exact OwnOk.keep (o:=.lst ds) h e k
  | ins x C fs=>exact OwnOk.keep (o:=.ins x C fs) h e k
  | dk kvs=>obtain ⟨o,vs,q,r⟩:=h;exact ⟨o,vs,by rw [k];exact q,r.mono e⟩
  | dt kvs=>obtain ⟨o,vs,q,r⟩:=h;exact ⟨o,vs,by rw [k];exact q,r.mono e⟩
def SeeOk (K:PySem.W.Frag) (G H:Hp) (a:Addr) (o:OO):Prop:=OwnOk K G H a o
def SrcOk (K:PySem.W.Frag) (G H:Hp) (a c:Addr):Prop:=G a=none/\∃ (ns:List Int) (i r sd n:Int),
  H a=some (.lst [.ref c,.int i,.int r,.int sd,.int n])/\SqL K G c (ns.map V.int)/\ns.length<=63/\0<=i/\0<=r/\0<=sd/\sd < 4294967296
def TabOk (G H:Hp) (a:Addr) (q:Str):Prop:=G a=none/\∃ ps:Array Value,H a=some (.tbl ps)/\TriplesOk ps.toList/\∀ (pos:Pos) (cv:Value),codeAmong pos ps.toList=some cv->∃ c,cv=.ref c/\G c=some (LamX.CodeO c q)
inductive Kd where
  | src (c:Addr) | tab (q:Str) | mt (C:Addr)
abbrev So:=List (Addr × Kd)
def So.Vol (so:So) (a:Addr):Prop:=∃ k,(a,k)∈so
abbrev So.Nt (so:So) (a:Addr):Prop:=¬ so.Vol a
def So.Nq (so:So) (a:Addr):Prop:=∀ k,(a,k)∈so->∃ C,k=.mt C
theorem So.Nt.q {so:So} {a:Addr} (h:so.Nt a):so.Nq a:=fun k e=>absurd ⟨k,e⟩ h
def lamNames:List Str:=["law","Tableau.improve","Ways.layer_step","_law_layer_step","plain_forms","_law_triangles","_law_case_layer","_law_fact_row","needless","exchangeable","_law_may","_law_set","_law_joined_due","_law_kept_by_hand"]
def lamFns (K:PySem.W.Frag):List (Addr × Addr × Str):=K.filterMap fun p=>match p.2.data with
  | .func fd=>(match fd.code with
    | .ref c=>if lamNames.contains fd.qualname then some (c,He.tabOf K c,fd.qualname++".<locals>."++"<lambda>") else none
    | _=>none)
  | _=>none
structure SoOk (K:PySem.W.Frag) (so:So):Prop where
  tb:∀ q∈lamFns K,(q.2.1,Kd.tab q.2.2)∈so
  uq:∀ a k k',(a,k)∈so->(a,k')∈so->k=k'
def KOk (K:PySem.W.Frag) (G H:Hp) (a:Addr):Kd->Prop
  | .src c=>SrcOk K G H a c
  | .tab q=>TabOk G H a q
  | .mt C=>G a=none/\((∃ dx vs,H a=some (.ins C dx vs)/\G dx=some (.own a))\/∃ vs,H a=some (.lst vs)\/(∃ ks,H a=some (.dK ks))\/∃ ks,H a=some (.dT ks))
theorem KOk.g {K:PySem.W.Frag} {G H:Hp} {a:Addr} {k:Kd} (h:KOk K G H a k):G a=none:=by
  cases k with
  | src c=>exact h.1
  | tab q=>exact h.1
  | mt C=>exact h.1
theorem KOk.there {K:PySem.W.Frag} {G H:Hp} {a:Addr} {k:Kd} (h:KOk K G H a k):H a≠none:=by
  cases k with
  | src c=>obtain ⟨_,_,_,_,_,_,e,_⟩:=h;rw [e];simp
  | tab q=>obtain ⟨_,_,e,_⟩:=h;rw [e];simp
  | mt C=>obtain ⟨_,⟨_,_,e,_⟩ | ⟨_,e | ⟨_,e⟩ | ⟨_,e⟩⟩⟩:=h<;>(rw [e];simp)
theorem KOk.keep {K:PySem.W.Frag} {H H' G G':Hp} {a:Addr} {k:Kd} (s:KOk K G H a k) (e:Ex G G') (g:G' a=none) (q:H' a=H a):KOk K G' H' a k:=by
  cases k with
  | src c=>
    obtain ⟨_,ns,i,r,sd,n,h1,h2,h3⟩:=s
    exact ⟨g,ns,i,r,sd,n,by rw [q];exact h1,ex_l e h2,h3⟩
  | tab z=>
    obtain ⟨_,ps,h1,h2,h3⟩:=s
    exact ⟨g,ps,by rw [q];exact h1,h2,fun pos cv hc=>let ⟨c,e1,e2⟩:=h3 pos cv hc;⟨c,e1,e _ _ e2⟩⟩
  | mt C=>
    obtain ⟨_,⟨dx,vs,h1,h2⟩ | ⟨vs,h⟩⟩:=s
    · exact ⟨g,.inl ⟨dx,vs,by rw [q];exact h1,e _ _ h2⟩⟩
    · exact ⟨g,.inr ⟨vs,by rw [q];exact h⟩⟩
def VOk (K:PySem.W.Frag) (G:Hp) (so:So) (H:Hp) (v:V):DV->Prop
  | .d x=>DOk K G v x
  | .src=>∃ a,(∃ c,(a,.src c)∈so)/\v=.ref a
  | .own o=>∃ a,v=.ref a/\G a=none/\so.Nt a/\OwnOk K G H a o
  | .bor o=>∃ a,v=.ref a/\so.Nt a/\BorOk K G H a o
  | .see o=>∃ a,v=.ref a/\so.Nt a/\SeeOk K G H a o
  | .mu _ _ _=>False
  | .gh _ _=>False
def SlOk (K:PySem.W.Frag) (G:Hp) (so:So) (H:Hp) (v:V):DV->Prop
  | .mu x C fs=>v=.ref x/\(x,.mt C)∈so/\∃ dx vs,H x=some (.ins C dx vs)/\FAll K G vs fs
  | .gh x r=>v=.ref x/\(∀ a∈r.as,(a,.mt 0)∈so/\H a≠none)/\r.R K G H
  | dv=>VOk K G so H v dv
structure HRep (K:PySem.W.Frag) (G:Hp) (so:So) (H:Hp):Prop where
  ex:Ex G H
  vol:∀ a k,(a,k)∈so->KOk K G H a k
  ok:SoOk K so
  tp:∀ a xs,H a=some (.tup xs)->G a=some (.tup xs)
theorem aeZ {G H:Hp} {a:Addr} {o:HO} (h:∀ b xs,H b=some (.tup xs)->G b=some (.tup xs)) (nt:∀ xs,o≠.tup xs):∀ b xs,(upd H a o) b=some (.tup xs)->G b=some (.tup xs):=fun b xs e=>by
  by_cases z:b=a
  · subst z;rw [upd_same] at e;exact absurd (Option.some.inj e) (nt xs)
  · rw [upd_ne z] at e;exact h b xs e
theorem tp_G {G H:Hp} {a:Addr} {u:HO} (h:∀ b xs,H b=some (.tup xs)->G b=some (.tup xs)) (ga:G a=none):∀ b xs,H b=some (.tup xs)->(upd G a u) b=some (.tup xs):=fun b xs e=>by
  have g:=h b xs e
  rw [upd_ne (fun z=>by rw [z,ga] at g;cases g)];exact g
theorem ah5 {G H:Hp} {a:Addr} {o:HO} (h:∀ b xs,H b=some (.tup xs)->G b=some (.tup xs)):∀ b xs,(upd H a o) b=some (.tup xs)->(upd G a o) b=some (.tup xs):=fun b xs e=>by
  by_cases z:b=a
  · subst z;rw [upd_same] at e ⊢;exact e
  · rw [upd_ne z] at e ⊢;exact h b xs e
theorem HRep.nsrc {K:PySem.W.Frag} {G:Hp} {so:So} {H:Hp} (h:HRep K G so H) {a:Addr} {o:HO} (q:G a=some o):so.Nt a:=fun ⟨k,z⟩=>by
  rw [(h.vol a k z).g] at q;cases q
theorem HRep.there {K:PySem.W.Frag} {G:Hp} {so:So} {H:Hp} (h:HRep K G so H) {a:Addr} (q:H a=none):so.Nt a:=fun ⟨k,z⟩=>(h.vol a k z).there q
theorem HRep.vth {K:PySem.W.Frag} {G:Hp} {so:So} {H:Hp} (h:HRep K G so H) {a:Addr} (s:so.Vol a):H a≠none:=fun q=>h.there q s
abbrev DSt:=List (Option DV)
def Own (sl:DSt) (σ:L2.St) (a:Addr):Prop:=∃ (i:Nat) (o:OO),sl[i]?=some (some (.own o))/\σ[i]?=some (some (.ref a))
structure Rep (K:PySem.W.Frag) (G:Hp) (so:So) (σ:L2.St) (H:Hp) (sl:DSt):Prop where
  h:HRep K G so H
  len:sl.length=σ.length
  slots:∀ (i:Nat) (dv:DV),sl[i]?=some (some dv)->∃ v,σ[i]?=some (some v)/\SlOk K G so H v dv
  sep:∀ (i j:Nat) (o o':OO) (a:Addr),sl[i]?=some (some (.own o))->sl[j]?=some (some (.own o'))->σ[i]?=some (some (.ref a))->σ[j]?=some (some (.ref a))->i=j
  bor:∀ (i:Nat) (o:OO) (a:Addr),sl[i]?=some (some (.bor o))->σ[i]?=some (some (.ref a))->¬ Own sl σ a
  nse:∀ (i:Nat) (o:OO),sl[i]?≠some (some (.see o))
structure Post (K:PySem.W.Frag) (G:Hp) (so:So) (σ:L2.St) (H:Hp) (sl:DSt) (H' G':Hp) (sl':DSt):Prop where
  ex:Ex G G'
  rep:Rep K G' so σ H' sl'
  keep:∀ a o,H a=some o->so.Nt a->H' a=some o
  frm:∀ a,H a≠none->G a=none->so.Nt a->¬ Own sl σ a->G' a=none
  sub:∀ a,Own sl' σ a->Own sl σ a
  bsub:∀ (i:Nat) (o:OO),sl'[i]?=some (some (.bor o))->∃ o',sl[i]?=some (some (.bor o'))
structure PostE (K:PySem.W.Frag) (G:Hp) (so:So) (σ:L2.St) (H:Hp) (sl:DSt) (v:V) (H' G':Hp) (dv:DV) (sl':DSt):Prop extends Post K G so σ H sl H' G' sl' where
  val:VOk K G' so H' v dv
  new:∀ a o,dv=.own o->v=.ref a->H a=none\/Own sl σ a
  sepv:∀ a o,dv=.own o\/dv=.bor o->v=.ref a->¬ Own sl' σ a
  nbs:∀ (a:Addr) (o:OO) (i:Nat) (o':OO),dv=.own o->v=.ref a->sl'[i]?=some (some (.bor o'))->σ[i]?=some (some (.ref a))->False
section
variable {K:PySem.W.Frag} {G G1 G2:Hp} {so:So} {σ:L2.St} {H H1 H2:Hp} {sl s1 s2:DSt} {v x y:V} {dv dx dy:DV}
theorem Rep.nown (r:Rep K G so σ H sl) {a:Addr} (h:Own sl σ a):H a≠none/\G a=none/\so.Nt a:=by
  obtain ⟨i,o,e1,e2⟩:=h
  obtain ⟨v,e3,e4⟩:=r.slots i _ e1
  rw [e2] at e3;cases e3
  obtain ⟨b,q,g,s,k⟩:=e4
  cases q
  exact ⟨k.there,g,s⟩
theorem Post.refl (r:Rep K G so σ H sl):Post K G so σ H sl H G sl:=⟨Ex.refl G,r,fun _ _ e _=>e,fun _ _ g _ _=>g,fun _ o=>o,fun _ o e=>⟨o,e⟩⟩
theorem akO {H H':Hp} {so:So} (k:∀ a o,H a=some o->so.Nq a->H' a=some o) {a:Addr} (n:H a≠none) (s:so.Nq a):H' a=H a:=by
  cases q:H a with
  | none=>exact absurd q n
  | some o=>exact k a o q s
theorem ace {H H':Hp} {so:So} (k:∀ a o,H a=some o->so.Nt a->H' a=some o) {a:Addr} (n:H a≠none) (s:so.Nt a):H' a=H a:=by
  cases q:H a with
  | none=>exact absurd q n
  | some o=>exact k a o q s
theorem Post.trans (a:Post K G so σ H sl H1 G1 s1) (b:Post K G1 so σ H1 s1 H2 G2 s2):Post K G so σ H sl H2 G2 s2:=
  ⟨a.ex.trans b.ex,b.rep,fun c o e s=>b.keep c o (a.keep c o e s) s,fun c n g s w=>by
    have n1:H1 c≠none:=by rw [ace a.keep n s];exact n
    exact b.frm c n1 (a.frm c n g s w) s fun z=>w (a.sub c z),fun c o=>a.sub c (b.sub c o),fun i o e=>let ⟨o1,e1⟩:=b.bsub i o e;a.bsub i o1 e1⟩
theorem VOk.keep (h:VOk K G so H x dx) (e:Ex G G1) (k:∀ a o,H a=some o->so.Nt a->H1 a=some o) (g:∀ a o,dx=.own o->x=.ref a->G1 a=none):VOk K G1 so H1 x dx:=by
  cases dx with
  | d z=>exact DOk.mono e h
  | src=>exact h
  | own o=>
    obtain ⟨a,q,q1,q2,q3⟩:=h
    exact ⟨a,q,g a o rfl q,q2,q3.keep e (ace k q3.there q2)⟩
  | bor o=>
    obtain ⟨a,q,q2,q3⟩:=h
    exact ⟨a,q,q2,q3.keep e (ace k q3.there q2)⟩
  | see o=>
    obtain ⟨a,q,q2,q3⟩:=h
    exact ⟨a,q,q2,q3.keep e (ace k q3.there q2)⟩
  | mu y C fs=>exact h
  | gh y r=>exact h
theorem SlOk.keep (h:SlOk K G so H x dx) (ok:SoOk K so) (e:Ex G G1) (k:∀ a o,H a=some o->so.Nq a->H1 a=some o) (g:∀ a o,dx=.own o->x=.ref a->G1 a=none):SlOk K G1 so H1 x dx:=by
  have k':∀ a o,H a=some o->so.Nt a->H1 a=some o:=fun a o e s=>k a o e s.q
  cases dx with
  | mu y C fs=>
    obtain ⟨q,m,dx,vs,h1,h2⟩:=h
    exact ⟨q,m,dx,vs,k y _ h1 fun k' e'=>⟨C,ok.uq y k' (.mt C) e' m⟩,h2.mono e⟩
  | gh y r=>
    obtain ⟨q,m,h1⟩:=h
    have kp:∀ a∈r.as,H1 a=H a:=fun a ha=>by
      obtain ⟨m1,m2⟩:=m a ha
      obtain ⟨o,z⟩:=Option.ne_none_iff_exists'.mp m2
      rw [z,k a o z fun k' e'=>⟨0,ok.uq a k' (.mt 0) e' m1⟩]
    exact ⟨q,fun a ha=>⟨(m a ha).1,by rw [kp a ha];exact (m a ha).2⟩,r.st K G G1 H H1 e kp h1⟩
  | d z=>exact VOk.keep (dx:=.d z) h e k' g
  | src=>exact VOk.keep (K:=K) (dx:=.src) h e k' g
  | own o=>exact VOk.keep (dx:=.own o) h e k' g
  | bor o=>exact VOk.keep (dx:=.bor o) h e k' g
  | see o=>exact VOk.keep (dx:=.see o) h e k' g
theorem SlOk.val (h:SlOk K G so H x dx) (n:∀ y C fs,dx≠.mu y C fs) (n2:∀ y r,dx≠.gh y r):VOk K G so H x dx:=by
  cases dx with
  | mu y C fs=>exact absurd rfl (n y C fs)
  | gh y r=>exact absurd rfl (n2 y r)
  | _=>exact h
theorem VOk.slot (h:VOk K G so H x dx):SlOk K G so H x dx:=by
  cases dx with
  | mu y C fs=>exact h.elim
  | gh y r=>exact h.elim
  | _=>exact h
theorem SlOk.muU {a y C:Addr} {o:HO} {fs:List (Str × D)} (h:SlOk K G so H x (.mu y C fs)) (e:Ex G G1) (n:so.Nt a):SlOk K G1 so (upd H a o) x (.mu y C fs):=by
  obtain ⟨q,m,dx,vs,h1,h2⟩:=h
  exact ⟨q,m,dx,vs,by rw [upd_ne (fun z=>n ⟨_,z ▸ m⟩)];exact h1,h2.mono e⟩
theorem SlOk.ghU {a y:Addr} {o:HO} {r:GR} (h:SlOk K G so H x (.gh y r)) (e:Ex G G1) (n:so.Nt a):SlOk K G1 so (upd H a o) x (.gh y r):=by
  obtain ⟨q,m,h1⟩:=h
  have kp:∀ b∈r.as,upd H a o b=H b:=fun b hb=>upd_ne (fun z=>n ⟨_,z ▸ (m b hb).1⟩)
  exact ⟨q,fun b hb=>⟨(m b hb).1,by rw [kp b hb];exact (m b hb).2⟩,r.st K G G1 H _ e kp h1⟩
theorem PostE.over (a:PostE K G so σ H sl x H1 G1 dx s1) (b:Post K G1 so σ H1 s1 H2 G2 s2):VOk K G2 so H2 x dx:=
  a.val.keep b.ex b.keep fun c o e q=>by
    have w:VOk K G1 so H1 x dx:=a.val
    rw [e] at w
    obtain ⟨c',q',g,s,k⟩:=w
    rw [q] at q';cases q'
    exact b.frm c k.there g s (a.sepv c o (.inl e) q)
end
structure PostV (K:PySem.W.Frag) (G:Hp) (so:So) (H:Hp) (v:V) (H' G':Hp) (dv:DV):Prop where
  ex:Ex G G'
  hrep:HRep K G' so H'
  keep:∀ a o,H a=some o->so.Nq a->H' a=some o
  frm:∀ a,H a≠none->G a=none->so.Nt a->G' a=none
  val:VOk K G' so H' v dv
  new:∀ a o,dv=.own o->v=.ref a->H a=none
  nob:∀ o,dv≠.bor o
section
variable {K:PySem.W.Frag} {G G':Hp} {so:So} {σ:L2.St} {H H':Hp} {sl:DSt} {v:V} {dv:DV}
theorem PostV.slots (p:PostV K G so H v H' G' dv) (r:Rep K G so σ H sl):PostE K G so σ H sl v H' G' dv sl where
  ex:=p.ex
  rep:=⟨p.hrep,r.len,fun i d e=>by
    obtain ⟨w,e1,e2⟩:=r.slots i d e
    refine ⟨w,e1,SlOk.keep e2 r.h.ok p.ex p.keep fun a o ed q=>?_⟩
    subst ed
    subst q
    obtain ⟨n,g,s⟩:=r.nown ⟨i,o,e,e1⟩
    exact p.frm a n g s,r.sep,r.bor,r.nse⟩
  keep:=fun a o e s=>p.keep a o e s.q
  frm:=fun a n g s _=>p.frm a n g s
  sub:=fun _ o=>o
  bsub:=fun _ o e=>⟨o,e⟩
  val:=p.val
  new:=fun a o e q=>.inl (p.new a o e q)
  sepv:=fun a o e q z=>e.elim (fun e=>(r.nown z).1 (p.new a o e q)) fun e=>p.nob o e
  nbs:=fun a o i o' e q e1 e2=>by
    obtain ⟨w,f1,f2⟩:=r.slots i _ e1
    rw [e2] at f1;cases f1
    obtain ⟨b,z,_,k⟩:=f2
    cases z
    exact k.there (p.new a o e q)
theorem PostV.pure (h:HRep K G so H) (w:VOk K G so H v dv) (n:∀ o,dv≠.own o) (m:∀ o,dv≠.bor o):PostV K G so H v H G dv:=
  ⟨Ex.refl G,h,fun _ _ e _=>e,fun _ _ g _=>g,w,fun _ o e=>absurd e (n o),m⟩
theorem PostV.dat {x:D} (h:HRep K G so H) (w:DOk K G v x):PostV K G so H v H G (.d x):=.pure h w (fun _ e=>(nomatch e)) fun _ e=>(nomatch e)
theorem HRep.alloc {p:Addr} {o:HO} (h:HRep K G so H) (n:H p=none) (nt:∀ xs,o≠.tup xs:=by intro _ z;cases z):HRep K G so (upd H p o):=
  ⟨h.ex.trans (Ex.new n),fun a k e=>(h.vol a k e).keep (Ex.refl G) (h.vol a k e).g (upd_ne fun z=>h.there n (z ▸ ⟨k,e⟩)),h.ok,aeZ h.tp nt⟩
theorem HRep.allocG {p:Addr} {o:HO} (h:HRep K G so H) (n:H p=none):HRep K (upd G p o) so (upd H p o):=
  ⟨h.ex.up,fun a k e=>
    have z:a≠p:=fun z=>h.there n (z ▸ ⟨k,e⟩)
    (h.vol a k e).keep (Ex.new (h.ex.free n)) (by rw [upd_ne z];exact (h.vol a k e).g) (upd_ne z),h.ok,ah5 h.tp⟩
theorem PostV.list {p:Addr} {vs:List V} {ds:List D} (h:HRep K G so H) (n:H p=none) (a:DAll K G vs ds):PostV K G so H (.ref p) (upd H p (.lst vs)) G (.own (.lst ds)):=
  ⟨Ex.refl G,h.alloc n,fun _ _ e _=>Ex.new n _ _ e,fun _ _ g _=>g,⟨p,rfl,h.ex.free n,h.there n,vs,upd_same,a⟩,fun b o e q=>(by cases q;exact n),fun _ e=>(nomatch e)⟩
theorem PostV.tuple {p:Addr} {vs:List V} {ds:List D} (h:HRep K G so H) (n:H p=none) (a:DAll K G vs ds):PostV K G so H (.ref p) (upd H p (.tup vs)) (upd G p (.tup vs)) (.d (.tup ds)):=
  ⟨Ex.new (h.ex.free n),h.allocG n,fun _ _ e _=>Ex.new n _ _ e,fun b q g _=>by rw [upd_ne (fun z=>by subst z;exact q n)];exact g,
    .tup (SqT.of upd_same) (a.mono (Ex.new (h.ex.free n))),fun _ o e=>(nomatch e),fun _ e=>(nomatch e)⟩
theorem PostV.trans {v1 v2:V} {d1 d2:DV} {H1 H2 G1 G2:Hp} (a:PostV K G so H v1 H1 G1 d1) (b:PostV K G1 so H1 v2 H2 G2 d2):PostV K G so H v2 H2 G2 d2:=
  ⟨a.ex.trans b.ex,b.hrep,fun c o e s=>b.keep c o (a.keep c o e s) s,fun c n g s=>b.frm c (by rw [akO a.keep n s.q];exact n) (a.frm c n g s) s,b.val,fun c o e q=>by
    cases z:H c with
    | none=>rfl
    | some u=>
      have n:=b.new c o e q
      by_cases s:so.Vol c
      · exact absurd n (a.hrep.vth s)
      · rw [a.keep c u z (So.Nt.q s)] at n
        exact (nomatch n),b.nob⟩
end
def tpUp (G H2:Hp):Hp:=fun b=>match H2 b with
  | some (.tup xs)=>some (.tup xs)
  | _=>G b
section
variable {K:PySem.W.Frag} {G:Hp} {so:So} {H H2:Hp}
theorem ah6 (h:HRep K G so H) (e:Ex H H2):Ex G (tpUp G H2):=fun b o q=>by
  have z:=e b o (h.ex b o q)
  unfold tpUp
  rw [z]
  cases o<;>first | rfl | exact q
theorem ahm {b:Addr} (h:HRep K G so H) (e:Ex H H2) (n:H b≠none) (g:G b=none):tpUp G H2 b=none:=by
  cases q:H b with
  | none=>exact absurd q n
  | some o=>
    have z:=e b o q
    unfold tpUp
    rw [z]
    cases o with
    | tup xs=>rw [h.tp b xs q] at g;cases g
    | _=>exact g
theorem HRep.grow (h:HRep K G so H) (e:Ex H H2):HRep K (tpUp G H2) so H2:=by
  refine ⟨fun b o q=>?_,fun a k q=>?_,h.ok,fun b xs q=>by unfold tpUp;rw [q]⟩
  · unfold tpUp at q
    split at q
    · rename_i xs z;cases q;exact z
    · exact e b o (h.ex b o q)
  · have t:=(h.vol a k q).there
    have same:H2 a=H a:=by
      cases z:H a with
      | none=>exact absurd z t
      | some o=>exact e a o z
    exact (h.vol a k q).keep (ah6 h e) (ahm h e t (h.vol a k q).g) same
end
abbrev XP:=Value->List (Str × D)->DSt->Prop
abbrev TD:=DSt->(DV->DSt->Prop)->XP->Prop
abbrev TDT:=DSt->(Bool->DSt->Prop)->XP->Prop
abbrev TDA:=DSt->(List DV->DSt->Prop)->XP->Prop
structure EndsD where
  nx:DSt->Prop
  rt:DV->DSt->Prop
  bk:DSt->Prop
  ct:DSt->Prop
  xc:XP
abbrev TDS:=EndsD->DSt->Prop
def XdOk (K:PySem.W.Frag) (G H:Hp):Option Addr->List (Str × D)->Prop
  | some dx,fs=>∃ vs,H dx=some (.xd vs)/\FAll K G vs fs
  | none,fs=>fs=[]
def XOk (K:PySem.W.Frag) (W:WX) (G:Hp) (so:So) (σ:L2.St) (H:Hp) (sl:DSt) (E:XP):Prop:=
  ∀ cls d H' G' fs sl',Post K G so σ H sl H' G' sl'->XdOk K G' H' d fs->E cls fs sl'->W cls d σ H'
inductive VsOk (K:PySem.W.Frag) (G:Hp) (so:So) (H:Hp):List V->List DV->Prop
  | nil:VsOk K G so H [] []
  | cons {v:V} {d:DV} {vs:List V} {ds:List DV}:VOk K G so H v d->(∀ o,d≠.own o)->VsOk K G so H vs ds->VsOk K G so H (v::vs) (d::ds)
section
variable (K:PySem.W.Frag) (W:WX)
def up (t:TD):TE:=fun σ H R=>∃ G so sl Q E,Rep K G so σ H sl/\t sl Q E/\(∀ v H' G' dv sl',PostE K G so σ H sl v H' G' dv sl'->Q dv sl'->R v H')/\XOk K W G so σ H sl E
def upT (t:TDT):TT:=fun σ H R=>∃ G so sl Q E,Rep K G so σ H sl/\t sl Q E/\(∀ b H' G' sl',Post K G so σ H sl H' G' sl'->Q b sl'->R b H')/\XOk K W G so σ H sl E
def upA (t:TDA):TA:=fun σ H R=>∃ G so sl Q E,Rep K G so σ H sl/\t sl Q E/\(∀ vs H' G' ds sl',Post K G so σ H sl H' G' sl'->VsOk K G' so H' vs ds->Q ds sl'->R vs H')/\XOk K W G so σ H sl E
end
def DE (X:Cx) (W:WX) (e:Expr) (t:TD):Prop:=PE X e (up X.K W t)
def DT (X:Cx) (W:WX) (e:Expr) (t:TDT):Prop:=PT X e (upT X.K W t)
def DA (X:Cx) (W:WX) (es:List Expr) (t:TDA):Prop:=PA X es (upA X.K W t)
theorem aa3 {X:Cx} {e:Expr} {t t':TE} (h:PE X e t) (f:∀ σ H R,t' σ H R->t σ H R):PE X e t':=⟨fun pins s σ H Q I q=>h.run pins s σ H Q I (f _ _ _ q)⟩
theorem ahC {X:Cx} {e:Expr} {t t':TT} (h:PT X e t) (f:∀ σ H R,t' σ H R->t σ H R):PT X e t':=⟨fun pins s σ H Q I q=>h.run pins s σ H Q I (f _ _ _ q)⟩
theorem ami {X:Cx} {e:Expr} {t t':TT} (h:PW X e t) (f:∀ σ H R,t' σ H R->t σ H R):PW X e t':=⟨fun wh pins s σ H Q I q=>h.run wh pins s σ H Q I (f _ _ _ q)⟩
theorem aml {X:Cx} {es:List Expr} {t t':TA} (h:PA X es t) (f:∀ σ H R,t' σ H R->t σ H R):PA X es t':=⟨fun pos pins s σ H Q I q=>h.run pos pins s σ H Q I (f _ _ _ q)⟩
theorem adu {X:Cx} {e:Stmt} {t t':TS} (h:PS X e t) (f:∀ D σ H,t' D σ H->t D σ H):PS X e t':=⟨fun pins s σ H Q I q=>h.run pins s σ H Q I (f _ _ _ q)⟩
theorem ake {X:Cx} {e:List Stmt} {t t':TS} (h:PSs X e t) (f:∀ D σ H,t' D σ H->t D σ H):PSs X e t':=⟨fun pins s σ H Q I q=>h.run pins s σ H Q I (f _ _ _ q)⟩
section
variable {K:PySem.W.Frag} {W:WX} {G G1 G2:Hp} {so:So} {σ:L2.St} {H H1 H2:Hp} {sl s1 s2:DSt} {v x y:V} {dv dx dy:DV} {E:XP}
theorem XOk.step (h:XOk K W G so σ H sl E) (p:Post K G so σ H sl H1 G1 s1):XOk K W G1 so σ H1 s1 E:=fun cls d H' G' fs sl' q a b=>h cls d H' G' fs sl' (p.trans q) a b
theorem Post.back (a:Post K G so σ H sl H1 G1 s1) {c:Addr} (n:H1 c=none):H c=none:=by
  cases z:H c with
  | none=>rfl
  | some u=>
    by_cases s:so.Vol c
    · exact absurd n (a.rep.h.vth s)
    · rw [a.keep c u z s] at n;cases n
theorem Post.thenE (a:Post K G so σ H sl H1 G1 s1) (b:PostE K G1 so σ H1 s1 v H2 G2 dv s2):PostE K G so σ H sl v H2 G2 dv s2:=
  { a.trans b.toPost with
    val:=b.val
    new:=fun c o e q=>(b.new c o e q).imp a.back (a.sub c)
    sepv:=b.sepv
    nbs:=b.nbs }
theorem Post.thenV (a:Post K G so σ H sl H1 G1 s1) (b:PostV K G1 so H1 v H2 G2 dv):PostE K G so σ H sl v H2 G2 dv s1:=a.thenE (b.slots a.rep)
theorem VsOk.keep:∀ {vs:List V} {ds:List DV},VsOk K G so H vs ds->Ex G G1->(∀ a o,H a=some o->so.Nt a->H1 a=some o)->VsOk K G1 so H1 vs ds
  | _,_,.nil,_,_=>.nil
  | _,_,.cons h n t,e,k=>.cons (h.keep e k fun a o q=>absurd q (n o)) n (VsOk.keep t e k)
theorem VsOk.length:∀ {vs:List V} {ds:List DV},VsOk K G so H vs ds->vs.length=ds.length
  | _,_,.nil=>rfl
  | _,_,.cons _ _ t=>congrArg (· + 1) (VsOk.length t)
end
def pubO:OO->D
  | .lst ds=>.lst ds
  | .ins _ C fs=>.ins C fs
  | .dk _=>.any
  | .dt _=>.any
def pubV:DV->DV
  | .own o=>.d (pubO o)
  | x=>x
theorem aiT (dv:DV):∀ o,pubV dv≠.own o:=fun o h=>by cases dv<;>cases h
section
variable {K:PySem.W.Frag} {W:WX} {G G1 G2:Hp} {so:So} {σ:L2.St} {H H1 H2:Hp} {sl s1 s2:DSt} {v x y:V} {dv dx dy:DV} {E:XP}
theorem akm {a:Addr} {o:OO} (h:OwnOk K G H a o) (g:G a=none):∃ u,H a=some u/\DOk K (upd G a u) (.ref a) (pubO o):=by
  cases o with
  | lst ds=>obtain ⟨vs,e,r⟩:=h;exact ⟨_,e,.lst upd_same (r.mono (Ex.new g))⟩
  | ins x C fs=>obtain ⟨_,dx,vs,e,gd,r⟩:=h;exact ⟨_,e,.ins upd_same (Ex.new g _ _ gd) (r.mono (Ex.new g))⟩
  | dk kvs=>obtain ⟨vs,e,r⟩:=h;exact ⟨_,e,.any _⟩
  | dt kvs=>obtain ⟨vs,e,r⟩:=h;exact ⟨_,e,.any _⟩
theorem afi {a:Addr} {u:HO} (h:HRep K G so H) (e:H a=some u) (g:G a=none) (s:so.Nt a):HRep K (upd G a u) so H:=
  ⟨fun b o q=>by
    by_cases z:b=a
    · subst z;rw [upd_same] at q;cases q;exact e
    · rw [upd_ne z] at q;exact h.ex b o q,
  fun b k q=>by
    have z:b≠a:=fun z=>s (z ▸ ⟨k,q⟩)
    exact (h.vol b k q).keep (Ex.new g) (by rw [upd_ne z];exact (h.vol b k q).g) rfl,h.ok,tp_G h.tp g⟩
theorem amZ {a:Addr} {u:HO} (r:Rep K G so σ H sl) (e:H a=some u) (g:G a=none) (s:so.Nt a) (n:¬ Own sl σ a):Rep K (upd G a u) so σ H sl:=
  ⟨afi r.h e g s,r.len,fun i d q=>by
    obtain ⟨w,e1,e2⟩:=r.slots i d q
    refine ⟨w,e1,SlOk.keep e2 r.h.ok (Ex.new g) (fun _ _ z _=>z) fun b o ed qb=>?_⟩
    subst ed;subst qb
    have z:b≠a:=fun z=>n ⟨i,o,q,z ▸ e1⟩
    rw [upd_ne z];exact (r.nown ⟨i,o,q,e1⟩).2.1,r.sep,r.bor,r.nse⟩
theorem PostE.pub (p:PostE K G so σ H sl v H1 G1 dv s1):∃ G2,PostE K G so σ H sl v H1 G2 (pubV dv) s1:=by
  cases dv with
  | d x=>exact ⟨G1,p⟩
  | src=>exact ⟨G1,p⟩
  | bor o=>exact ⟨G1,p⟩
  | see o=>exact ⟨G1,p⟩
  | mu _ _ _=>exact ⟨G1,p⟩
  | gh _ _=>exact ⟨G1,p⟩
  | own o=>
    obtain ⟨a,q,g,s,ok⟩:=p.val
    subst q
    obtain ⟨u,e,dk⟩:=akm ok g
    have n:=p.sepv a o (.inl rfl) rfl
    refine ⟨upd G1 a u,{ ex:=p.ex.trans (Ex.new g),rep:=amZ p.rep e g s n,keep:=p.keep,frm:=fun b n1 g1 s1' w=>?_,sub:=p.sub,bsub:=p.bsub,val:=dk,new:=fun _ o' e'=>(nomatch e'),sepv:=fun _ o' e'=>e'.elim (fun e'=>(nomatch e')) fun e'=>(nomatch e'),nbs:=fun _ _ _ _ e'=>(nomatch e') }⟩
    have z:b≠a:=fun z=>by
      subst z
      rcases p.new b o rfl rfl with k | k
      · exact n1 k
      · exact w k
    rw [upd_ne z];exact p.frm b n1 g1 s1' w
end
def dC (x:D):TD:=fun sl Q _=>Q (.d x) sl
def dVar (i:Nat):TD:=fun sl Q _=>match sl[i]? with
  | some (some (.own o))=>Q (.d (pubO o)) (sl.set i (some (.d (pubO o))))
  | some (some (.mu _ _ _))=>False
  | some (some (.gh _ _))=>False
  | some (some dv)=>Q dv sl
  | _=>False
def dSee (i:Nat):TD:=fun sl Q _=>match sl[i]? with
  | some (some (.own o))=>Q (.see o) sl
  | some (some (.mu _ _ _))=>False
  | some (some (.gh _ _))=>False
  | some (some dv)=>Q dv sl
  | _=>False
section
variable {K:PySem.W.Frag} {W:WX} {G G1 G2:Hp} {so:So} {σ:L2.St} {H H1 H2:Hp} {sl s1 s2:DSt} {v x y:V} {dv dx dy:DV} {E:XP} {X:Cx}
theorem de_c {e:Expr} {u:V} {d:D} (h:PE X e (tC u)) (r:∀ G,DOk X.K G u d):DE X W e (dC d):=aa3 h fun σ H R ⟨G,so,sl,Q,E,rep,q,hq,_⟩=>
  hq u H G _ sl ((Post.refl rep).thenV (.dat rep.h (r G))) q
theorem aae {i:Int} {j:Nat} {pos:Pos}:DE X W (.Constant (.int i) j pos) (dC (.int i)):=de_c pe_int fun _=>.int _
theorem ajH {b:Bool} {j:Nat} {pos:Pos}:DE X W (.Constant (.bool b) j pos) (dC (.bl b)):=de_c pe_bl fun _=>.bl _
theorem aeG {j:Nat} {pos:Pos}:DE X W (.Constant .none j pos) (dC .non):=de_c pe_non fun _=>.non
theorem ac7 {x:Str} {j:Nat} {pos:Pos}:DE X W (.Constant (.str x) j pos) (dC (.str x)):=de_c pe_str fun _=>.str _
theorem VOk.see {o:OO} (h:VOk K G so H v (.own o)):VOk K G so H v (.see o):=by
  obtain ⟨a,q,_,s,k⟩:=h
  exact ⟨a,q,s,k⟩
theorem PostE.here (rep:Rep K G so σ H sl) (w:VOk K G so H v dv) (n:∀ o,dv≠.own o) (m:∀ a o,dv=.bor o->v=.ref a->¬ Own sl σ a):PostE K G so σ H sl v H G dv sl:=
  { Post.refl rep with
    val:=w
    new:=fun _ o e=>absurd e (n o)
    sepv:=fun a o e q=>e.elim (fun e=>absurd e (n o)) fun e=>m a o e q
    nbs:=fun _ o _ _ e=>absurd e (n o) }
theorem own_set {i:Nat} {d:D} {a:Addr} (h:Own (sl.set i (some (.d d))) σ a):Own sl σ a/\σ[i]?≠some (some (.ref a))\/(Own sl σ a/\∃ j,j≠i/\∃ o,sl[j]?=some (some (.own o))/\σ[j]?=some (some (.ref a))):=by
  obtain ⟨j,o,e1,e2⟩:=h
  have ne:j≠i:=fun z=>by
    subst z
    rw [List.getElem?_set] at e1
    split at e1
    · split at e1<;>cases e1
    · rename_i k;exact k rfl
  rw [List.getElem?_set_ne ne.symm] at e1
  exact .inr ⟨⟨j,o,e1,e2⟩,j,ne,o,e1,e2⟩
theorem aac {i:Nat} {n:Str} {pos:Pos} (h:PE X (.Name n pos) (tVar i)):DE X W (.Name n pos) (dVar i):=aa3 h fun σ H R ⟨G,so,sl,Q,E,rep,q,hq,_⟩=>by
  unfold dVar at q
  split at q
  · rename_i o e
    obtain ⟨v,e1,w⟩:=rep.slots i _ e
    refine ⟨v,e1,?_⟩
    obtain ⟨a,qa,g,s,ok⟩:=w
    subst qa
    obtain ⟨u,eu,dk⟩:=akm ok g
    have others:∀ b,Own (sl.set i (some (.d (pubO o)))) σ b->Own sl σ b/\b≠a:=fun b z=>by
      rcases own_set z with ⟨k1,k2⟩ | ⟨k1,j,ne,o',k2,k3⟩
      · exact ⟨k1,fun z=>k2 (z ▸ e1)⟩
      · exact ⟨k1,fun z=>ne (rep.sep j i o' o a k2 e (z ▸ k3) e1)⟩
    refine hq _ H (upd G a u) _ _ ?_ q
    refine { ex:=Ex.new g,rep:=⟨afi rep.h eu g s,by rw [List.length_set];exact rep.len,fun j d ej=>?_,fun j k o1 o2 b e1' e2' e3 e4=>?_,fun j o1 b e1' e2' z=>?_,fun j o1 z=>?_⟩,keep:=fun _ _ z _=>z,frm:=fun b n1 g1 s1 w=>?_,sub:=fun b z=>(others b z).1,bsub:=fun j o1 z=>?_,val:=dk,new:=fun _ o' e'=>(nomatch e'),sepv:=fun _ o' e'=>e'.elim (fun e'=>(nomatch e')) fun e'=>(nomatch e'),nbs:=fun _ _ _ _ e'=>(nomatch e') }
    · by_cases ji:j=i
      · subst ji
        rw [List.getElem?_set] at ej
        split at ej
        · split at ej
          · cases ej;exact ⟨_,e1,dk⟩
          · cases ej
        · rename_i k;exact absurd rfl k
      · rw [List.getElem?_set_ne (Ne.symm ji)] at ej
        obtain ⟨w',f1,f2⟩:=rep.slots j d ej
        refine ⟨w',f1,SlOk.keep f2 rep.h.ok (Ex.new g) (fun _ _ z _=>z) fun b o' ed qb=>?_⟩
        subst ed;subst qb
        have z:b≠a:=fun z=>ji (rep.sep j i o' o a ej e (z ▸ f1) e1)
        rw [upd_ne z];exact (rep.nown ⟨j,o',ej,f1⟩).2.1
    · have f:∀ (m:Nat) (o3:OO),(sl.set i (some (.d (pubO o))))[m]?=some (some (.own o3))->sl[m]?=some (some (.own o3)):=fun m o3 em=>by
        by_cases mi:m=i
        · subst mi
          rw [List.getElem?_set] at em
          split at em
          · split at em<;>cases em
          · rename_i k;exact absurd rfl k
        · rw [List.getElem?_set_ne (Ne.symm mi)] at em;exact em
      exact rep.sep j k o1 o2 b (f _ _ e1') (f _ _ e2') e3 e4
    · have ne:j≠i:=fun z=>by
        subst z
        rw [List.getElem?_set] at e1'
        split at e1'
        · split at e1'<;>cases e1'
        · rename_i k;exact absurd rfl k
      rw [List.getElem?_set_ne (Ne.symm ne)] at e1'
      exact rep.bor j o1 b e1' e2' (others b z).1
    · by_cases ne:j=i
      · subst ne
        rw [List.getElem?_set] at z
        split at z
        · split at z<;>cases z
        · rename_i k;exact absurd rfl k
      · rw [List.getElem?_set_ne (Ne.symm ne)] at z
        exact rep.nse j o1 z
    · have z:b≠a:=fun z=>w ⟨i,o,e,z ▸ e1⟩
      rw [upd_ne z];exact g1
    · by_cases ne:j=i
      · subst ne
        rw [List.getElem?_set] at z
        split at z
        · split at z<;>cases z
        · rename_i k;exact absurd rfl k
      · rw [List.getElem?_set_ne (Ne.symm ne)] at z
        exact ⟨o1,z⟩
  · exact q.elim
  · exact q.elim
  · rename_i dv no nm ng e
    obtain ⟨v,e1,w⟩:=rep.slots i _ e
    exact ⟨v,e1,hq v H G dv sl (.here rep (SlOk.val w (fun y C fs z=>nm y C fs z) fun y r z=>ng y r z) (fun o z=>no o z) fun a o z z2=>by subst z;subst z2;exact rep.bor i o a e e1) q⟩
  · exact q.elim
theorem aad {i:Nat} {n:Str} {pos:Pos} (h:PE X (.Name n pos) (tVar i)):DE X W (.Name n pos) (dSee i):=aa3 h fun σ H R ⟨G,so,sl,Q,E,rep,q,hq,_⟩=>by
  unfold dSee at q
  split at q
  · rename_i o e
    obtain ⟨v,e1,w⟩:=rep.slots i _ e
    exact ⟨v,e1,hq v H G _ sl (.here rep w.see (fun _ z=>(nomatch z)) fun _ _ z=>(nomatch z)) q⟩
  · exact q.elim
  · exact q.elim
  · rename_i dv no nm ng e
    obtain ⟨v,e1,w⟩:=rep.slots i _ e
    exact ⟨v,e1,hq v H G dv sl (.here rep (SlOk.val w (fun y C fs z=>nm y C fs z) fun y r z=>ng y r z) (fun o z=>no o z) fun a o z z2=>by subst z;subst z2;exact rep.bor i o a e e1) q⟩
  · exact q.elim
end
def OpSem (K:PySem.W.Frag) (r:R2) (rd:DV->DV->(DV->Prop)->Prop):Prop:=∀ (G:Hp) (so:So) (H:Hp) (x y:V) (dx dy:DV) (Q:DV->Prop) (R:VK),HRep K G so H->VOk K G so H x dx->VOk K G so H y dy->rd dx dy Q->
  (∀ v H' G' dv,PostV K G so H v H' G' dv->Q dv->R v H')->r x y H R
def UnSem (K:PySem.W.Frag) (r:V->Hp->VK->Prop) (rd:DV->(DV->Prop)->Prop):Prop:=∀ (G:Hp) (so:So) (H:Hp) (x:V) (dx:DV) (Q:DV->Prop) (R:VK),HRep K G so H->VOk K G so H x dx->rd dx Q->
  (∀ v H' G' dv,PostV K G so H v H' G' dv->Q dv->R v H')->r x H R
def CallSem (K:PySem.W.Frag) (r:List V->Hp->VK->Prop) (rd:List DV->(DV->Prop)->Prop):Prop:=∀ (G:Hp) (so:So) (H:Hp) (xs:List V) (dxs:List DV) (Q:DV->Prop) (R:VK),HRep K G so H->VsOk K G so H xs dxs->rd dxs Q->
  (∀ v H' G' dv,PostV K G so H v H' G' dv->Q dv->R v H')->r xs H R
def dOp (rd:DV->DV->(DV->Prop)->Prop) (ta tb:TD):TD:=fun sl Q E=>ta sl (fun x s1=>tb s1 (fun y s2=>rd x y fun z=>Q z s2) E) E
def dUn (rd:DV->(DV->Prop)->Prop) (ta:TD):TD:=fun sl Q E=>ta sl (fun x s1=>rd x fun z=>Q z s1) E
def dCB (rd:List DV->(DV->Prop)->Prop) (ta:TDA):TD:=fun sl Q E=>ta sl (fun xs s1=>rd xs fun z=>Q z s1) E
def dNil:TDA:=fun sl Q _=>Q [] sl
def dCons (ta:TD) (tr:TDA):TDA:=fun sl Q E=>ta sl (fun x s1=>tr s1 (fun xs s2=>Q (pubV x::xs) s2) E) E
section
variable {K:PySem.W.Frag} {W:WX} {σ:L2.St} {H:Hp} {R:VK} {ta tb:TD} {X:Cx} {a b e:Expr} {pos:Pos}
theorem alq {r:R2} {rd:DV->DV->(DV->Prop)->Prop} (hr:OpSem K r rd) (h:up K W (dOp rd ta tb) σ H R):tOp r (up K W ta) (up K W tb) σ H R:=by
  obtain ⟨G,so,sl,Q,E,rep,q,hq,hx⟩:=h
  refine ⟨G,so,sl,_,E,rep,q,fun x H1 G1 dx s1 p1 h1=>?_,hx⟩
  refine ⟨G1,so,s1,_,E,p1.rep,h1,fun y H2 G2 dy s2 p2 h2=>?_,hx.step p1.toPost⟩
  exact hr G2 so H2 x y dx dy _ R p2.rep.h (p1.over p2.toPost) p2.val h2 fun v H' G' dv pv hz=>hq v H' G' dv s2 ((p1.toPost.trans p2.toPost).thenV pv) hz
theorem anX {r:V->Hp->VK->Prop} {rd:DV->(DV->Prop)->Prop} (hr:UnSem K r rd) (h:up K W (dUn rd ta) σ H R):tUn r (up K W ta) σ H R:=by
  obtain ⟨G,so,sl,Q,E,rep,q,hq,hx⟩:=h
  refine ⟨G,so,sl,_,E,rep,q,fun x H1 G1 dx s1 p1 h1=>?_,hx⟩
  exact hr G1 so H1 x dx _ R p1.rep.h p1.val h1 fun v H' G' dv pv hz=>hq v H' G' dv s1 (p1.toPost.thenV pv) hz
theorem amG {r:List V->Hp->VK->Prop} {rd:List DV->(DV->Prop)->Prop} {t:TDA} (hr:CallSem K r rd) (h:up K W (dCB rd t) σ H R):tCB r (upA K W t) σ H R:=by
  obtain ⟨G,so,sl,Q,E,rep,q,hq,hx⟩:=h
  refine ⟨G,so,sl,_,E,rep,q,fun vs H1 G1 ds s1 p1 w h1=>?_,hx⟩
  exact hr G1 so H1 vs ds _ R p1.rep.h w h1 fun v H' G' dv pv hz=>hq v H' G' dv s1 (p1.thenV pv) hz
theorem aab:DA X W [] dNil:=aml pa_nil fun σ H R ⟨G,so,sl,Q,E,rep,q,hq,_⟩=>hq [] H G [] sl (.refl rep) .nil q
theorem aaa {es:List Expr} {tr:TDA} (ha:DE X W e ta) (hr:DA X W es tr) (hs:starEach (e::es) X.env=(false,eval e X.env)::starEach es X.env:=by rfl):DA X W (e::es) (dCons ta tr):=by
  refine aml (pa_cons ha hr hs) fun σ H R ⟨G,so,sl,Q,E,rep,q,hq,hx⟩=>?_
  refine ⟨G,so,sl,_,E,rep,q,fun x H1 G1 dx s1 p1 h1=>?_,hx⟩
  obtain ⟨G1',p1'⟩:=p1.pub
  refine ⟨G1',so,s1,_,E,p1'.rep,h1,fun vs H2 G2 ds s2 p2 w h2=>?_,hx.step p1'.toPost⟩
  exact hq (x::vs) H2 G2 (pubV dx::ds) s2 (p1'.toPost.trans p2) (.cons (p1'.over p2) (aiT dx) w) h2
theorem ajG {op:Operator} {r:R2} {rd:DV->DV->(DV->Prop)->Prop} (ho:OpR X (binaryOp op) r) (hr:OpSem X.K r rd) (ha:DE X W a ta) (hb:DE X W b tb):DE X W (.BinOp a op b pos) (dOp rd ta tb):=aa3 (pe_op ho ha hb) fun _ _ _ h=>alq hr h
theorem de_un {op:UnaryOp} {r:V->Hp->VK->Prop} {rd:DV->(DV->Prop)->Prop} (ho:UnR X (unaryOp op) r) (hr:UnSem X.K r rd) (ha:DE X W a ta):DE X W (.UnaryOp op a pos) (dUn rd ta):=aa3 (pe_un ho ha) fun _ _ _ h=>anX hr h
theorem aeI {op:CmpOp} {r:R2} {rd:DV->DV->(DV->Prop)->Prop} (ho:OpR X (compareOp op) r) (hr:OpSem X.K r rd) (ha:DE X W a ta) (hb:DE X W b tb) (hm:behindInMarks op b=false):DE X W (.Compare a [op] [b] pos) (dOp rd ta tb):=aa3 (pe_cmpR ho ha hb hm) fun _ _ _ h=>alq hr h
theorem aan {r:R2} {rd:DV->DV->(DV->Prop)->Prop} (ho:IxR X r) (hr:OpSem X.K r rd) (ha:DE X W a ta) (hb:DE X W b tb) (hs:PlainIx b):DE X W (.Subscript a b pos) (dOp rd ta tb):=aa3 (pe_ix ho ha hb hs) fun _ _ _ h=>alq hr h
end
def keyD:Key->D
  | .inl i=>.int i
  | .inr z=>.str z
def keyPy:Key->PyData
  | .inl i=>.int i
  | .inr z=>.str z
mutual
def D.py:D->Option PyData
  | .non=>some .none
  | .bl b=>some (.bool b)
  | .int i=>some (.int i)
  | .str x=>some (.str x)
  | .lst ds=>(D.pyAll ds).map .list
  | .tup ds=>(D.pyAll ds).map .tuple
  | .ins _ _=>none
  | .dk _=>none
  | .dt _=>none
  | .any=>none
  | .raw _=>none
  | .kt ks=>some (.tuple (ks.map keyPy))
def D.pyAll:List D->Option (List PyData)
  | []=>some []
  | d::r=>match D.py d,D.pyAll r with
    | some p,some ps=>some (p::ps)
    | _,_=>none
end
def DV.dat:DV->Option D
  | .d x=>some x
  | .own o=>some (pubO o)
  | .bor o=>some (pubO o)
  | .see o=>some (pubO o)
  | .src=>none
  | .mu _ _ _=>none
  | .gh _ _=>none
def DV.items:DV->Option (List D)
  | .d (.lst ds)=>some ds
  | .own (.lst ds)=>some ds
  | .bor (.lst ds)=>some ds
  | .see (.lst ds)=>some ds
  | _=>none
section
variable {K:PySem.W.Frag} {G H:Hp} {so:So} {v x y:V} {dv dx dy:DV}
theorem ait {H:Hp}:∀ ks:List Key,DpAll K H (ks.map kV) (ks.map keyPy)
  | []=>.nil
  | .inl i::r=>.cons (.int i) (ait r)
  | .inr z::r=>.cons (.str z) (ait r)
mutual
theorem DOk.dp (e:Ex G H):∀ (d:D) (v:V) (p:PyData),DOk K G v d->d.py=some p->Dp K H v p
  | .non,_,_,h,q=>by cases h;cases q;exact .non
  | .bl b,_,_,h,q=>by cases h;cases q;exact .bl b
  | .int i,_,_,h,q=>by cases h;cases q;exact .int i
  | .str x,_,_,h,q=>by cases h;cases q;exact .str x
  | .lst ds,_,p,h,q=>by
    unfold D.py at q
    cases z:D.pyAll ds with
    | none=>rw [z] at q;cases q
    | some ps=>
      rw [z] at q;cases q
      cases h with
      | lst g a=>exact .lst (SqL.of (e _ _ g)) (DAll.dp e ds _ ps a z)
  | .tup ds,_,p,h,q=>by
    unfold D.py at q
    cases z:D.pyAll ds with
    | none=>rw [z] at q;cases q
    | some ps=>
      rw [z] at q;cases q
      cases h with
      | tup g a=>exact .tup (ex_t e g) (DAll.dp e ds _ ps a z)
  | .ins _ _,_,_,_,q=>by cases q
  | .dk _,_,_,_,q=>by cases q
  | .dt _,_,_,_,q=>by cases q
  | .any,_,_,_,q=>by cases q
  | .raw _,_,_,_,q=>by cases q
  | .kt ks,_,_,h,q=>by
    unfold D.py at q
    cases q
    cases h with
    | kt g=>exact .tup (SqT.of (e _ _ g)) (ait ks)
theorem DAll.dp (e:Ex G H):∀ (ds:List D) (vs:List V) (ps:List PyData),DAll K G vs ds->D.pyAll ds=some ps->DpAll K H vs ps
  | [],_,_,h,q=>by cases h;cases q;exact .nil
  | d::r,_,ps,h,q=>by
    cases h with
    | cons h1 h2=>
      unfold D.pyAll at q
      cases z1:D.py d with
      | none=>rw [z1] at q;cases q
      | some p=>
        cases z2:D.pyAll r with
        | none=>rw [z1,z2] at q;cases q
        | some qs=>
          rw [z1,z2] at q;cases q
          exact .cons (DOk.dp e d _ p h1 z1) (DAll.dp e r _ qs h2 z2)
end
theorem VOk.dp {d:D} {p:PyData} (h:HRep K G so H) (w:VOk K G so H v dv) (e:dv.dat=some d) (q:d.py=some p):Dp K H v p:=by
  cases dv with
  | d z=>cases e;exact DOk.dp h.ex _ _ _ w q
  | src=>cases e
  | mu _ _ _=>cases e
  | gh _ _=>cases e
  | own o=>
    cases e
    obtain ⟨a,rfl,_,_,ok⟩:=w
    cases o with
    | lst ds=>
      obtain ⟨vs,e1,al⟩:=ok
      unfold pubO D.py at q
      cases z:D.pyAll ds with
      | none=>rw [z] at q;cases q
      | some ps=>rw [z] at q;cases q;exact .lst (SqL.of e1) (DAll.dp h.ex ds _ ps al z)
    | ins x C fs=>unfold pubO D.py at q;cases q
    | dk _=>unfold pubO D.py at q;cases q
    | dt _=>unfold pubO D.py at q;cases q
  | bor o=>
    cases e
    obtain ⟨a,rfl,_,ok⟩:=w
    cases o with
    | lst ds=>
      obtain ⟨vs,e1,al⟩:=ok
      unfold pubO D.py at q
      cases z:D.pyAll ds with
      | none=>rw [z] at q;cases q
      | some ps=>rw [z] at q;cases q;exact .lst (SqL.of e1) (DAll.dp h.ex ds _ ps al z)
    | ins x C fs=>unfold pubO D.py at q;cases q
    | dk _=>unfold pubO D.py at q;cases q
    | dt _=>unfold pubO D.py at q;cases q
  | see o=>
    cases e
    obtain ⟨a,rfl,_,ok⟩:=w
    cases o with
    | lst ds=>
      obtain ⟨vs,e1,al⟩:=ok
      unfold pubO D.py at q
      cases z:D.pyAll ds with
      | none=>rw [z] at q;cases q
      | some ps=>rw [z] at q;cases q;exact .lst (SqL.of e1) (DAll.dp h.ex ds _ ps al z)
    | ins x C fs=>unfold pubO D.py at q;cases q
    | dk _=>unfold pubO D.py at q;cases q
    | dt _=>unfold pubO D.py at q;cases q
theorem VOk.list {ds:List D} (h:HRep K G so H) (w:VOk K G so H v dv) (e:dv.items=some ds):∃ a vs,v=.ref a/\H a=some (.lst vs)/\DAll K G vs ds:=by
  unfold DV.items at e
  split at e
  · cases e
    cases w with
    | lst g a=>exact ⟨_,_,rfl,h.ex _ _ g,a⟩
  · cases e
    obtain ⟨a,rfl,_,_,vs,e1,al⟩:=w
    exact ⟨a,vs,rfl,e1,al⟩
  · cases e
    obtain ⟨a,rfl,_,vs,e1,al⟩:=w
    exact ⟨a,vs,rfl,e1,al⟩
  · cases e
    obtain ⟨a,rfl,_,vs,e1,al⟩:=w
    exact ⟨a,vs,rfl,e1,al⟩
  · cases e
theorem VOk.tup {ds:List D} (h:HRep K G so H) (w:VOk K G so H v (.d (.tup ds))):∃ a vs,v=.ref a/\SqT K H a vs/\DAll K G vs ds:=by
  cases w with
  | tup g a=>exact ⟨_,_,rfl,ex_t h.ex g,a⟩
end
abbrev szl:Nat:=16777216
theorem acr:szl=sizeLine:=by rw [sizeLine_eq]
@[irreducible] def addR:DV->DV->(DV->Prop)->Prop
  | .d (.int i),.d (.int j),Q=>Q (.d (.int (i + j)))
  | .d (.str a),.d (.str b),Q=>a.length + b.length<=szl/\Q (.d (.str (a++b)))
  | .d (.tup a),.d (.tup b),Q=>a.length + b.length<=szl/\Q (.d (.tup (a++b)))
  | x,y,Q=>match x.items,y.items with
    | some a,some b=>a.length + b.length<=szl/\Q (.own (.lst (a++b)))
    | _,_=>False
@[irreducible] def intR (C:Int->Int->Prop) (f:Int->Int->D):DV->DV->(DV->Prop)->Prop
  | .d (.int i),.d (.int j),Q=>C i j/\Q (.d (f i j))
  | _,_,_=>False
@[irreducible] def akT (f:Int->Int->D):DV->DV->(DV->Prop)->Prop
  | .d (.int i),.d (.int j),Q=>Q (.d (f i j))
  | _,_,_=>False
@[irreducible] def negR:DV->(DV->Prop)->Prop
  | .d (.int i),Q=>Q (.d (.int (-i)))
  | _,_=>False
section
variable {K:PySem.W.Frag} {X:Cx} {W:WX} {a b:Expr} {ta tb:TD} {pos:Pos}
theorem agN {C:Int->Int->Prop} {f:Int->Int->D} {g:Int->Int->V} (hg:∀ G i j,DOk K G (g i j) (f i j)):OpSem K (rI C g) (intR C f):=by
  intro G so H x y dx dy Q R h wx wy q k
  unfold intR at q
  split at q
  · cases wx;cases wy;exact ⟨_,_,rfl,rfl,q.1,k _ H G _ (.dat h (hg G _ _)) q.2⟩
  · exact q.elim
theorem aaT {f:Int->Int->D} {g:Int->Int->V} (hg:∀ G i j,DOk K G (g i j) (f i j)):OpSem K (rI0 g) (akT f):=by
  intro G so H x y dx dy Q R h wx wy q k
  unfold akT at q
  split at q
  · cases wx;cases wy;exact ⟨_,_,rfl,rfl,k _ H G _ (.dat h (hg G _ _)) q⟩
  · exact q.elim
def aob:R2:=fun x y H Q=>∃ i j,x=.str i/\y=.str j/\i.length + j.length<=sizeLine/\Q (.str (i++j)) H
def rAddAll (K:PySem.W.Frag):R2:=fun x y H Q=>(rI0 fun i j=>.int (i + j)) x y H Q\/(aob x y H Q\/(rCatA K x y H Q\/rCat x y H Q))
theorem ako:OpR X (binaryOp .Add) (rAddAll X.K):=OpR.or op_add (OpR.or op_add_str (OpR.or op_catA op_cat))
theorem amS:OpSem K (rAddAll K) addR:=by
  intro G so H x y dx dy Q R h wx wy q k
  unfold addR at q
  split at q
  · cases wx;cases wy;exact .inl ⟨_,_,rfl,rfl,k _ H G _ (.dat h (.int _)) q⟩
  · cases wx;cases wy;exact .inr (.inl ⟨_,_,rfl,rfl,by rw [<- acr];exact q.1,k _ H G _ (.dat h (.str _)) q.2⟩)
  · obtain ⟨a,vs,rfl,g1,a1⟩:=VOk.tup h wx
    obtain ⟨b,ws,rfl,g2,a2⟩:=VOk.tup h wy
    refine .inr (.inr (.inl ⟨a,b,vs,ws,rfl,rfl,g1,g2,?_,fun z=>?_,fun _ z=>?_,fun _ _ p n=>?_⟩))
    · rw [a1.length,a2.length,<- acr];exact q.1
    · subst z;cases a1;exact k _ H G _ (.dat h (by have w:DOk K G _ _:=wy;simpa using w)) q.2
    · subst z;cases a2;exact k _ H G _ (.dat h (by have w:DOk K G _ _:=wx;simpa using w)) q.2
    · exact k _ _ _ _ (.tuple h n (a1.append a2)) q.2
  · split at q
    · rename_i e1 e2
      obtain ⟨a,vs,rfl,g1,a1⟩:=VOk.list h wx e1
      obtain ⟨b,ws,rfl,g2,a2⟩:=VOk.list h wy e2
      refine .inr (.inr (.inr ⟨a,b,vs,ws,rfl,rfl,g1,g2,?_,fun p n=>?_⟩))
      · rw [a1.length,a2.length,<- acr];exact q.1
      · exact k _ _ _ _ (.list h n (a1.append a2)) q.2
    · exact q.elim
theorem adj (ha:DE X W a ta) (hb:DE X W b tb):DE X W (.BinOp a .Add b pos) (dOp addR ta tb):=ajG ako amS ha hb
theorem amz (ha:DE X W a ta) (hb:DE X W b tb):DE X W (.BinOp a .Sub b pos) (dOp (akT fun i j=>.int (i - j)) ta tb):=ajG op_sub (aaT fun _ _ _=>.int _) ha hb
theorem aoN (ha:DE X W a ta) (hb:DE X W b tb):DE X W (.BinOp a .Mod b pos) (dOp (intR (fun _ j=>0 < j) fun i j=>.int (i % j)) ta tb):=ajG op_mod (agN fun _ _ _=>.int _) ha hb
theorem ahb (ha:DE X W a ta) (hb:DE X W b tb):DE X W (.BinOp a .FloorDiv b pos) (dOp (intR CDivW fun i j=>.int (i / j)) ta tb):=ajG op_fdivW (agN fun _ _ _=>.int _) ha hb
theorem aoK (ha:DE X W a ta) (hb:DE X W b tb):DE X W (.BinOp a .Pow b pos) (dOp (intR CPow fun i j=>.int (i ^ j.toNat)) ta tb):=ajG op_pow (agN fun _ _ _=>.int _) ha hb
theorem amM:UnSem K (rU fun i=>.int (-i)) negR:=by
  intro G so H x dx Q R h wx q k
  unfold negR at q
  split at q
  · cases wx;exact ⟨_,rfl,k _ H G _ (.dat h (.int _)) q⟩
  · exact q.elim
theorem aoM (ha:DE X W a ta):DE X W (.UnaryOp .USub a pos) (dUn negR ta):=de_un un_neg amM ha
@[irreducible] def mulR:DV->DV->(DV->Prop)->Prop
  | .d (.int i),.d (.int j),Q=>CMulW i j/\Q (.d (.int (i * j)))
  | x,.d (.int k),Q=>match x.items with
    | some a=>-(2 ^ 63)<=k/\k < 2 ^ 63/\a.length * k.toNat<=szl/\Q (.own (.lst (List.replicate k.toNat a).flatten))
    | _=>False
  | _,_,_=>False
@[irreducible] def eqDeep (neg:Bool):DV->DV->(DV->Prop)->Prop:=fun x y Q=>match x.dat,y.dat with
  | some a,some b=>match a.py,b.py with
    | some p,some q=>SeqAt.shaped p=true/\SeqAt.shaped q=true/\Q (.d (.bl (if neg then !PyData.eqv p q else PyData.eqv p q)))
    | _,_=>False
  | _,_=>False
@[irreducible] def eqR (neg:Bool):DV->DV->(DV->Prop)->Prop
  | .d (.int i),.d (.int j),Q=>Q (.d (.bl (if neg then !decide (i=j) else decide (i=j))))
  | .d (.str i),.d (.str j),Q=>Q (.d (.bl (if neg then !decide (i=j) else decide (i=j))))
  | .d (.bl i),.d (.bl j),Q=>Q (.d (.bl (if neg then !decide (i=j) else decide (i=j))))
  | x,y,Q=>eqDeep neg x y Q
def rEqAll (K:PySem.W.Frag):R2:=fun x y H Q=>rEq x y H Q\/rEqD K x y H Q
def rNeAll (K:PySem.W.Frag):R2:=fun x y H Q=>rNe x y H Q\/rNeD K x y H Q
theorem aba (hu:X.A.units + 64 < cLine):OpR X (compareOp .Eq) (rEqAll X.K):=OpR.or op_eq (op_eqD hu)
theorem aey (hu:X.A.units + 64 < cLine):OpR X (compareOp .NotEq) (rNeAll X.K):=OpR.or op_ne (op_neD hu)
theorem decI {i j:Int}:decide (V.int i=V.int j)=decide (i=j):=by
  by_cases h:i=j
  · subst h;simp
  · simp [h]
theorem decS {i j:Str}:decide (V.str i=V.str j)=decide (i=j):=by
  by_cases h:i=j
  · subst h;simp
  · simp [h]
theorem decB {i j:Bool}:decide (V.bl i=V.bl j)=decide (i=j):=by
  by_cases h:i=j
  · subst h;simp
  · simp [h]
theorem acH:OpSem K (rEqAll K) (eqR false):=by
  intro G so H x y dx dy Q R h wx wy q k
  unfold eqR at q
  split at q
  · cases wx;cases wy
    exact .inl ⟨rfl,by rw [decI];exact k _ H G _ (.dat h (.bl _)) q⟩
  · cases wx;cases wy
    exact .inl ⟨rfl,by rw [decS];exact k _ H G _ (.dat h (.bl _)) q⟩
  · cases wx;cases wy
    exact .inl ⟨rfl,by rw [decB];exact k _ H G _ (.dat h (.bl _)) q⟩
  · unfold eqDeep at q
    split at q
    · rename_i d e e1 e2
      split at q
      · rename_i p p' e3 e4
        exact .inr ⟨p,p',wx.dp h e1 e3,wy.dp h e2 e4,q.1,q.2.1,k _ H G _ (.dat h (.bl _)) q.2.2⟩
      · exact q.elim
    · exact q.elim
theorem ahp:OpSem K (rNeAll K) (eqR true):=by
  intro G so H x y dx dy Q R h wx wy q k
  unfold eqR at q
  split at q
  · cases wx;cases wy
    exact .inl ⟨rfl,by rw [decI];exact k _ H G _ (.dat h (.bl _)) q⟩
  · cases wx;cases wy
    exact .inl ⟨rfl,by rw [decS];exact k _ H G _ (.dat h (.bl _)) q⟩
  · cases wx;cases wy
    exact .inl ⟨rfl,by rw [decB];exact k _ H G _ (.dat h (.bl _)) q⟩
  · unfold eqDeep at q
    split at q
    · rename_i d e e1 e2
      split at q
      · rename_i p p' e3 e4
        exact .inr ⟨p,p',wx.dp h e1 e3,wy.dp h e2 e4,q.1,q.2.1,k _ H G _ (.dat h (.bl _)) q.2.2⟩
      · exact q.elim
    · exact q.elim
end
@[irreducible] def Br (b:Bool) (A B:Prop):Prop:=(b=true->A)/\(b=false->B)
theorem brt {A B:Prop} (h:Br true A B):A:=by
  unfold Br at h;exact h.1 rfl
theorem brf {A B:Prop} (h:Br false A B):B:=by
  unfold Br at h;exact h.2 rfl
theorem br {b:Bool} {A B:Prop} (h1:b=true->A) (h2:b=false->B):Br b A B:=by
  unfold Br;exact ⟨h1,h2⟩
theorem brT {A B:Prop} (h:A):Br true A B:=br (fun _=>h) fun z=>(nomatch z)
theorem brF {A B:Prop} (h:B):Br false A B:=br (fun z=>(nomatch z)) fun _=>h
structure PostS (K:PySem.W.Frag) (G:Hp) (so:So) (σ:L2.St) (H:Hp) (sl:DSt) (σ':L2.St) (H' G':Hp) (sl':DSt):Prop where
  ex:Ex G G'
  rep:Rep K G' so σ' H' sl'
  keep:∀ a o,H a=some o->so.Nt a->¬ Own sl σ a->H' a=some o
  frm:∀ a,H a≠none->G a=none->so.Nt a->¬ Own sl σ a->G' a=none
  sub:∀ a,H a≠none->so.Nt a->¬ Own sl σ a->¬ Own sl' σ' a
  ln:σ'.length=σ.length
structure PostR (K:PySem.W.Frag) (G:Hp) (so:So) (σ:L2.St) (H:Hp) (sl:DSt) (v:V) (H' G':Hp) (dv:DV) (sl':DSt):Prop where
  ex:Ex G G'
  hrep:HRep K G' so H'
  keep:∀ a o,H a=some o->so.Nt a->¬ Own sl σ a->H' a=some o
  frm:∀ a,H a≠none->G a=none->so.Nt a->¬ Own sl σ a->G' a=none
  val:VOk K G' so H' v dv
  new:∀ a o,dv=.own o->v=.ref a->H a=none\/Own sl σ a
  mus:∀ (i:Nat) (x C:Addr) (fs:List (Str × D)),sl'[i]?=some (some (.mu x C fs))->∃ dx vs,H' x=some (.ins C dx vs)/\FAll K G' vs fs
def XOkS (K:PySem.W.Frag) (W:WX) (G:Hp) (so:So) (σ:L2.St) (H:Hp) (sl:DSt) (E:XP):Prop:=
  ∀ cls d σ' H' G' fs sl',PostS K G so σ H sl σ' H' G' sl'->XdOk K G' H' d fs->E cls fs sl'->W cls d σ' H'
section
variable {K:PySem.W.Frag} {W:WX} {G G1 G2:Hp} {so:So} {σ σ1 σ2:L2.St} {H H1 H2:Hp} {sl s1 s2:DSt} {v x y:V} {dv dx dy:DV} {E:XP}
theorem Rep.mus (r:Rep K G so σ H sl) (i:Nat) (x C:Addr) (fs:List (Str × D)) (e:sl[i]?=some (some (.mu x C fs))):∃ dx vs,H x=some (.ins C dx vs)/\FAll K G vs fs:=by
  obtain ⟨v,_,w⟩:=r.slots i _ e
  exact w.2.2
theorem Post.s (p:Post K G so σ H sl H1 G1 s1):PostS K G so σ H sl σ H1 G1 s1:=⟨p.ex,p.rep,fun a o e s _=>p.keep a o e s,p.frm,fun a _ _ w z=>w (p.sub a z),rfl⟩
theorem PostS.refl (r:Rep K G so σ H sl):PostS K G so σ H sl σ H G sl:=(Post.refl r).s
theorem PostS.trans (a:PostS K G so σ H sl σ1 H1 G1 s1) (b:PostS K G1 so σ1 H1 s1 σ2 H2 G2 s2):PostS K G so σ H sl σ2 H2 G2 s2:=
  ⟨a.ex.trans b.ex,b.rep,fun c o e s w=>b.keep c o (a.keep c o e s w) s (a.sub c (by rw [e];simp) s w),fun c n g s w=>by
    obtain ⟨o,e⟩:=Option.ne_none_iff_exists'.mp n
    exact b.frm c (by rw [a.keep c o e s w];simp) (a.frm c n g s w) s (a.sub c n s w),fun c n s w=>by
    obtain ⟨o,e⟩:=Option.ne_none_iff_exists'.mp n
    exact b.sub c (by rw [a.keep c o e s w];simp) s (a.sub c n s w),b.ln.trans a.ln⟩
theorem PostS.back (a:PostS K G so σ H sl σ1 H1 G1 s1) {c:Addr} (n:H1 c=none\/Own s1 σ1 c):H c=none\/Own sl σ c:=by
  by_cases w:Own sl σ c
  · exact .inr w
  · refine .inl ?_
    cases z:H c with
    | none=>rfl
    | some u=>
      by_cases s:so.Vol c
      · rcases n with n | n
        · exact absurd s (a.rep.h.there n)
        · exact absurd s (a.rep.nown n).2.2
      · rcases n with n | n
        · rw [a.keep c u z s w] at n;cases n
        · exact absurd n (a.sub c (by rw [z];simp) s w)
theorem PostS.thenE (a:PostS K G so σ H sl σ1 H1 G1 s1) (b:PostE K G1 so σ1 H1 s1 v H2 G2 dv s2):PostR K G so σ H sl v H2 G2 dv s2:=by
  have t:=a.trans b.toPost.s
  exact ⟨t.ex,t.rep.h,t.keep,t.frm,b.val,fun c o e q=>a.back (b.new c o e q),b.rep.mus⟩
theorem PostS.thenR (a:PostS K G so σ H sl σ1 H1 G1 s1) (b:PostR K G1 so σ1 H1 s1 v H2 G2 dv s2):PostR K G so σ H sl v H2 G2 dv s2:=
  ⟨a.ex.trans b.ex,b.hrep,fun c o e s w=>b.keep c o (a.keep c o e s w) s (a.sub c (by rw [e];simp) s w),fun c n g s w=>by
    obtain ⟨o,e⟩:=Option.ne_none_iff_exists'.mp n
    exact b.frm c (by rw [a.keep c o e s w];simp) (a.frm c n g s w) s (a.sub c n s w),b.val,fun c o e q=>a.back (b.new c o e q),b.mus⟩
theorem XOkS.ex (h:XOkS K W G so σ H sl E):XOk K W G so σ H sl E:=fun cls d H' G' fs sl' q a b=>h cls d σ H' G' fs sl' q.s a b
theorem XOkS.step (h:XOkS K W G so σ H sl E) (p:PostS K G so σ H sl σ1 H1 G1 s1):XOkS K W G1 so σ1 H1 s1 E:=fun cls d σ' H' G' fs sl' q a b=>h cls d σ' H' G' fs sl' (p.trans q) a b
end
structure EOk (K:PySem.W.Frag) (W:WX) (G:Hp) (so:So) (σ:L2.St) (H:Hp) (sl:DSt) (E:EndsD) (D:Ends):Prop where
  nx:∀ σ' H' G' sl',PostS K G so σ H sl σ' H' G' sl'->E.nx sl'->D.nx σ' H'
  bk:∀ σ' H' G' sl',PostS K G so σ H sl σ' H' G' sl'->E.bk sl'->D.bk σ' H'
  ct:∀ σ' H' G' sl',PostS K G so σ H sl σ' H' G' sl'->E.ct sl'->D.ct σ' H'
  rt:∀ v H' G' dv sl',PostR K G so σ H sl v H' G' dv sl'->E.rt dv sl'->D.rt v H'
  xc:XOkS K W G so σ H sl E.xc
theorem EOk.step {K:PySem.W.Frag} {W:WX} {G G1:Hp} {so:So} {σ σ1:L2.St} {H H1:Hp} {sl s1:DSt} {E:EndsD} {D:Ends} (h:EOk K W G so σ H sl E D) (p:PostS K G so σ H sl σ1 H1 G1 s1):EOk K W G1 so σ1 H1 s1 E D:=
  ⟨fun a b c d q=>h.nx a b c d (p.trans q),fun a b c d q=>h.bk a b c d (p.trans q),fun a b c d q=>h.ct a b c d (p.trans q),fun a b c d z q=>h.rt a b c d z (p.thenR q),h.xc.step p⟩
def upS (K:PySem.W.Frag) (W:WX) (t:TDS):TS:=fun D σ H=>∃ G so sl E,Rep K G so σ H sl/\t E sl/\EOk K W G so σ H sl E D
def DS (X:Cx) (W:WX) (st:Stmt) (t:TDS):Prop:=PS X st (upS X.K W t)
def DSs (X:Cx) (W:WX) (sts:List Stmt) (t:TDS):Prop:=PSs X sts (upS X.K W t)
def dNext:TDS:=fun E sl=>E.nx sl
def dSeq (t u:TDS):TDS:=fun E sl=>t { E with nx:=u E } sl
def dSet (te:TD) (i:Nat):TDS:=fun E sl=>te sl (fun x s1=>match x with
  | .see _=>False
  | y=>E.nx (s1.set i (some y))) E.xc
def dRet (te:TD):TDS:=fun E sl=>te sl (fun x s1=>E.rt x s1) E.xc
def dIf (c:TDT) (t u:TDS):TDS:=fun E sl=>c sl (fun b s1=>Br b (t E s1) (u E s1)) E.xc
section
variable {X:Cx} {W:WX} {st:Stmt} {rest body orelse:List Stmt} {t u:TDS} {e c a b:Expr} {te ta tb:TD} {tc td:TDT} {pos:Pos}
theorem abD:DSs X W [] dNext:=ake pss_nil fun D σ H ⟨G,so,sl,E,rep,q,ok⟩=>ok.nx σ H G sl (.refl rep) q
theorem aah (h1:DS X W st t) (h2:DSs X W rest u):DSs X W (st::rest) (dSeq t u):=ake (pss_cons h1 h2) fun D σ H ⟨G,so,sl,E,rep,q,ok⟩=>
  ⟨G,so,sl,_,rep,q,⟨fun σ1 H1 G1 s1 p q1=>⟨G1,so,s1,E,p.rep,q1,ok.step p⟩,ok.bk,ok.ct,ok.rt,ok.xc⟩⟩
theorem aai (h1:DS X W st t):DSs X W [st] t:=pss_one h1
theorem aao (h:DE X W e te):DS X W (.Return (some e) pos) (dRet te):=adu (ps_ret h) fun D σ H ⟨G,so,sl,E,rep,q,ok⟩=>
  ⟨G,so,sl,_,E.xc,rep,q,fun v H1 G1 dv s1 p q1=>ok.rt v H1 G1 dv s1 ((PostS.refl rep).thenE p) q1,ok.xc.ex⟩
theorem acT (hc:DT X W c tc) (h1:DSs X W body t) (h2:DSs X W orelse u):DS X W (.If c body orelse pos) (dIf tc t u):=adu (ps_if hc h1 h2) fun D σ H ⟨G,so,sl,E,rep,q,ok⟩=>by
  refine ⟨G,so,sl,_,E.xc,rep,q,fun k H1 G1 s1 p q1=>?_,ok.xc.ex⟩
  cases k with
  | true=>rw [if_pos rfl];exact ⟨G1,so,s1,E,p.rep,(brt q1),ok.step p.s⟩
  | false=>rw [if_neg Bool.false_ne_true];exact ⟨G1,so,s1,E,p.rep,(brf q1),ok.step p.s⟩
end
section
variable {K:PySem.W.Frag} {W:WX} {G G1 G2:Hp} {so:So} {σ σ1 σ2:L2.St} {H H1 H2:Hp} {sl s1 s2:DSt} {v x y:V} {dv dx dy:DV} {E:XP}
theorem get_set {α:Type} {l:List α} {i j:Nat} {x y:α} (h:(l.set i x)[j]?=some y):(j=i/\y=x)\/(j≠i/\l[j]?=some y):=by
  by_cases ji:j=i
  · subst ji
    rw [List.getElem?_set] at h
    split at h
    · split at h
      · cases h;exact .inl ⟨rfl,rfl⟩
      · cases h
    · rename_i k;exact absurd rfl k
  · rw [List.getElem?_set_ne (Ne.symm ji)] at h
    exact .inr ⟨ji,h⟩
theorem alw {i:Nat} (hi:i < σ.length) (ns:∀ o,dv≠.see o) (rep:Rep K G so σ H sl) (w:VOk K G so H v dv) (n:∀ a o,dv=.own o\/dv=.bor o->v=.ref a->¬ Own sl σ a) (nb:∀ (a:Addr) (o:OO) (i':Nat) (o':OO),dv=.own o->v=.ref a->sl[i']?=some (some (.bor o'))->σ[i']?=some (some (.ref a))->False) (new:∀ a o,dv=.own o->v=.ref a->H1 a=none\/Own s1 σ1 a)
    (sub:∀ a,H1 a≠none->so.Nt a->¬ Own s1 σ1 a->¬ Own sl σ a) :
    Rep K G so (σ.set i (some v)) H (sl.set i (some dv))/\∀ a,H1 a≠none->so.Nt a->¬ Own s1 σ1 a->¬ Own (sl.set i (some dv)) (σ.set i (some v)) a:=by
  have hl:i < sl.length:=by rw [rep.len];exact hi
  have self:(σ.set i (some v))[i]?=some (some v):=List.getElem?_set_self hi
  have other:∀ {j:Nat},j≠i->(σ.set i (some v))[j]?=σ[j]?:=fun ne=>List.getElem?_set_ne (Ne.symm ne)
  refine ⟨⟨rep.h,by rw [List.length_set,List.length_set];exact rep.len,fun j d q=>?_,fun j k o o' a q1 q2 q3 q4=>?_,fun j o a q1 q2 z=>?_,fun j o z=>?_⟩,fun a n1 sa w1 z=>?_⟩
  · rcases get_set q with ⟨rfl,e⟩ | ⟨ne,e⟩
    · cases e;exact ⟨v,self,VOk.slot w⟩
    · obtain ⟨w',e1,e2⟩:=rep.slots j d e
      exact ⟨w',by rw [other ne];exact e1,e2⟩
  · rcases get_set q1 with ⟨rfl,e1⟩ | ⟨ne1,e1⟩
    · cases e1
      rw [self] at q3;cases q3
      rcases get_set q2 with ⟨rfl,e2⟩ | ⟨ne2,e2⟩
      · rfl
      · rw [other ne2] at q4
        exact absurd ⟨k,o',e2,q4⟩ (n a o (.inl rfl) rfl)
    · rw [other ne1] at q3
      rcases get_set q2 with ⟨rfl,e2⟩ | ⟨ne2,e2⟩
      · cases e2
        rw [self] at q4;cases q4
        exact absurd ⟨j,o,e1,q3⟩ (n a o' (.inl rfl) rfl)
      · rw [other ne2] at q4
        exact rep.sep j k o o' a e1 e2 q3 q4
  · obtain ⟨m,o',e1,e2⟩:=z
    rcases get_set q1 with ⟨rfl,f1⟩ | ⟨ne1,f1⟩
    · cases f1
      rw [self] at q2;cases q2
      rcases get_set e1 with ⟨rfl,f2⟩ | ⟨ne2,f2⟩
      · cases f2
      · rw [other ne2] at e2
        exact n a o (.inr rfl) rfl ⟨m,o',f2,e2⟩
    · rw [other ne1] at q2
      rcases get_set e1 with ⟨rfl,f2⟩ | ⟨ne2,f2⟩
      · cases f2
        rw [self] at e2;cases e2
        exact nb a o' j o rfl rfl f1 q2
      · rw [other ne2] at e2
        exact rep.bor j o a f1 q2 ⟨m,o',f2,e2⟩
  · rcases get_set z with ⟨rfl,e⟩ | ⟨ne,e⟩
    · cases e;exact ns o rfl
    · exact rep.nse j o e
  · obtain ⟨j,o,e1,e2⟩:=z
    rcases get_set e1 with ⟨rfl,e⟩ | ⟨ne,e⟩
    · cases e
      rw [self] at e2;cases e2
      rcases new a o rfl rfl with k | k
      · exact n1 k
      · exact w1 k
    · rw [other ne] at e2
      exact sub a n1 sa w1 ⟨j,o,e,e2⟩
theorem PostE.set {i:Nat} (hi:i < σ.length) (ns:∀ o,dv≠.see o) (p:PostE K G so σ H sl v H1 G1 dv s1):PostS K G so σ H sl (σ.set i (some v)) H1 G1 (s1.set i (some dv)):=by
  have bf:∀ (a:Addr) (o:OO) (i':Nat) (o':OO),dv=.own o->v=.ref a->s1[i']?=some (some (.bor o'))->σ[i']?=some (some (.ref a))->False:=fun a o i' o' e q e1 e2=>p.nbs a o i' o' e q e1 e2
  obtain ⟨r,s⟩:=alw (H1:=H) (s1:=sl) (σ1:=σ) hi ns p.rep p.val (fun a o e q=>p.sepv a o e q) bf (fun a o e q=>p.new a o e q) fun a _ _ w z=>w (p.sub a z)
  exact ⟨p.ex,r,fun a o e sa _=>p.keep a o e sa,p.frm,s,List.length_set⟩
end
section
variable {X:Cx} {W:WX} {e:Expr} {te:TD} {pos pos':Pos} {i:Nat} {x:Str}
theorem ajP {K:PySem.W.Frag} {D:Ends} {σ:L2.St} {H:Hp} (hi:∀ {G so sl},Rep K G so σ H sl->i < σ.length) (h:upS K W (dSet te i) D σ H):tAsg (up K W te) (gName i) D σ H:=by
  obtain ⟨G,so,sl,E,rep,q,ok⟩:=h
  refine ⟨G,so,sl,_,E.xc,rep,q,fun v H1 G1 dv s1 p q1=>?_,ok.xc.ex⟩
  split at q1
  · exact q1.elim
  · rename_i ns
    exact ok.nx _ H1 G1 _ (p.set (hi rep) fun o z=>ns o z) q1
theorem akf {st:Stmt} {t t':TS} (h:PS X st t) (f:∀ D σ H,σ.length=X.N.length->t' D σ H->t D σ H):PS X st t':=⟨fun pins s σ H Q I q=>h.run pins s σ H Q I (f _ _ _ I.len q)⟩
theorem abu (hN:X.N.Nodup) (hi:X.N[i]?=some x) (hx:Loc X.env.scope x) (he:DE X W e te) (hs:swapsWith e (some (.Name x pos')) pos.line X.env=pure false:=by rfl) (hf:X.fn x=true\/X.env.scope.names.lookup x=some .local:=by first | exact .inl rfl | exact .inr rfl | assumption) :
    DS X W (.Assign [.Name x pos'] e pos) (dSet te i):=akf (ps_set hN hi hx he hs hf) fun D σ H hl h=>ajP (fun _=>by rw [hl];exact (List.getElem?_eq_some_iff.mp hi).1) h
end
@[irreducible] def truR:DV->(Bool->Prop)->Prop
  | .d (.bl b),Q=>Q b
  | .d .non,Q=>Q false
  | .d (.int i),Q=>Q (i != 0)
  | .d (.str x),Q=>x.length<=szl/\Q ((x.length:Int) != 0)
  | .d (.tup ds),Q=>Q (!ds.isEmpty)
  | v,Q=>match v.items with
    | some ds=>Q (!ds.isEmpty)
    | none=>False
def dTru (te:TD):TDT:=fun sl Q E=>te sl (fun x s1=>truR x fun b=>Q b s1) E
def dTest (te:TD):TDT:=fun sl Q E=>te sl (fun x s1=>match x with
  | .d (.bl b)=>Q b s1
  | _=>False) E
def dAnd (t u:TDT):TDT:=fun sl Q E=>t sl (fun b s1=>Br b (u s1 Q E) (Q false s1)) E
def dOr (t u:TDT):TDT:=fun sl Q E=>t sl (fun b s1=>Br b (Q true s1) (u s1 Q E)) E
def dNot (t:TDT):TDT:=fun sl Q E=>t sl (fun b s1=>Q (!b) s1) E
def dIfE (t:TDT) (ta tb:TD):TD:=fun sl Q E=>t sl (fun b s1=>Br b (ta s1 Q E) (tb s1 Q E)) E
def dAndV (ta tb:TD):TD:=fun sl Q E=>ta sl (fun x s1=>match x with
  | .d (.bl b)=>Br b (tb s1 Q E) (Q (.d (.bl false)) s1)
  | _=>False) E
def dOrV (ta tb:TD):TD:=fun sl Q E=>ta sl (fun x s1=>match x with
  | .d (.bl b)=>Br b (Q (.d (.bl true)) s1) (tb s1 Q E)
  | _=>False) E
def dNotV (ta:TD):TD:=fun sl Q E=>ta sl (fun x s1=>truR x fun b=>Q (.d (.bl (!b))) s1) E
theorem afT {K:PySem.W.Frag} {G:Hp} {vs:List V} {ds:List D} (a:DAll K G vs ds):vs.isEmpty=ds.isEmpty:=by
  cases a<;>rfl
theorem amd {K:PySem.W.Frag} {G:Hp} {so:So} {H:Hp} {v:V} {dv:DV} {Q:Bool->Prop} (h:HRep K G so H) (w:VOk K G so H v dv) (q:truR dv Q):∃ k,TruV K v H k/\Q k:=by
  unfold truR at q
  split at q
  · cases w;exact ⟨_,rfl,q⟩
  · cases w;exact ⟨_,rfl,q⟩
  · cases w;exact ⟨_,rfl,q⟩
  · cases w;exact ⟨_,⟨by rw [<- acr];exact q.1,rfl⟩,q.2⟩
  · obtain ⟨a,vs,rfl,g1,a1⟩:=VOk.tup h w
    exact ⟨_,.inr (.inl ⟨vs,g1,rfl⟩),by rw [afT a1];exact q⟩
  · split at q
    · rename_i e
      obtain ⟨a,vs,rfl,g1,a1⟩:=VOk.list h w e
      exact ⟨_,.inl ⟨vs,SqL.of g1,rfl⟩,by rw [afT a1];exact q⟩
    · exact q.elim
section
variable {X:Cx} {W:WX} {e c a b:Expr} {rest:List Expr} {te ta tb tc:TD} {t u:TDT} {pos:Pos} {K:PySem.W.Frag} {σ:L2.St} {H:Hp}
theorem acs (h:DE X W e te) (he:∀ whole,isTrue e X.env whole=(do let v <- whole;standAt e.pos;holding [v] (truthy v)):=by intro _;rfl):DT X W e (dTru te):=
  ahC (pt_truth h he) fun σ H R ⟨G,so,sl,Q,E,rep,q,hq,hx⟩=>⟨G,so,sl,_,E,rep,q,fun v H1 G1 dv s1 p q1=>by
    obtain ⟨k,tv,qk⟩:=amd p.rep.h p.val q1
    exact ⟨k,tv,hq k H1 G1 s1 p.toPost qk⟩,hx⟩
theorem amE {te:TD} {R:Bool->Hp->Prop} (h:upT K W (dTest te) σ H R):tTest (up K W te) σ H R:=by
  obtain ⟨G,so,sl,Q,E,rep,q,hq,hx⟩:=h
  refine ⟨G,so,sl,_,E,rep,q,fun v H1 G1 dv s1 p q1=>?_,hx⟩
  split at q1
  · have w:=p.val
    cases w
    exact ⟨_,rfl,hq _ H1 G1 s1 p.toPost q1⟩
  · exact q1.elim
theorem aiG {tE:TE} {te:TD} {R:Bool->Hp->Prop} (f:∀ R,up K W te σ H R->tE σ H R) (h:upT K W (dTest te) σ H R):tTest tE σ H R:=f _ (amE h)
theorem aaU {op:CmpOp} {r:R2} {rd:DV->DV->(DV->Prop)->Prop} (ho:OpR X (compareOp op) r) (hr:OpSem X.K r rd) (ha:DE X W a ta) (hb:DE X W b tb) (hm:behindInMarks op b=false):DT X W (.Compare a [op] [b] pos) (dTest (dOp rd ta tb)):=
  ahC (pt_cmpR ho ha hb hm) fun _ _ _ h=>aiG (fun _ h=>alq hr h) h
def dChain (rd rd':DV->DV->(DV->Prop)->Prop) (ta tb tc:TD):TD:=fun sl Q E=>ta sl (fun x s1=>tb s1 (fun y s2=>rd x y fun z=>match z with
  | .d (.bl b)=>Br b (tc s2 (fun w s3=>rd' y w fun z'=>Q z' s3) E) (Q (.d (.bl false)) s2)
  | _=>False) E) E
theorem PostV.nop {G G1 H1:Hp} {so:So} {v:V} {dv:DV} {sl:DSt} (p:PostV K G so H v H1 G1 dv) (rep:Rep K G so σ H sl):Post K G so σ H sl H1 G1 sl:=(p.slots rep).toPost
theorem aiH {r r':R2} {rd rd':DV->DV->(DV->Prop)->Prop} {R:VK} (hr:OpSem K r rd) (hr':OpSem K r' rd') (h:up K W (dChain rd rd' ta tb tc) σ H R):tChain r r' (up K W ta) (up K W tb) (up K W tc) σ H R:=by
  obtain ⟨G,so,sl,Q,E,rep,q,hq,hx⟩:=h
  refine ⟨G,so,sl,_,E,rep,q,fun x H1 G1 dx s1 p1 h1=>?_,hx⟩
  refine ⟨G1,so,s1,_,E,p1.rep,h1,fun y H2 G2 dy s2 p2 h2=>?_,hx.step p1.toPost⟩
  have p12:=p1.toPost.trans p2.toPost
  refine hr G2 so H2 x y dx dy _ _ p2.rep.h (p1.over p2.toPost) p2.val h2 fun v H3 G3 dv pv hz=>?_
  split at hz
  · have w:=pv.val
    cases w
    rename_i b
    have p3:=pv.nop p2.rep
    refine ⟨_,rfl,?_⟩
    cases b with
    | true=>
      rw [if_pos rfl]
      refine ⟨G3,so,s2,_,E,p3.rep,(brt hz),fun w H4 G4 dw s4 p4 h4=>?_,(hx.step p12).step p3⟩
      exact hr' G4 so H4 y w dy dw _ R p4.rep.h (p2.over (p3.trans p4.toPost)) p4.val h4 fun v' H' G' dv' pv' hz'=>hq v' H' G' dv' s4 ((p12.trans (p3.trans p4.toPost)).thenV pv') hz'
    | false=>
      rw [if_neg Bool.false_ne_true]
      exact hq _ H3 G3 _ s2 (p12.thenV pv) ((brf hz))
  · exact hz.elim
theorem al6 {op op':CmpOp} {r r':R2} {rd rd':DV->DV->(DV->Prop)->Prop} (ho:OpR X (compareOp op) r) (hr:OpSem X.K r rd) (ho':OpR X (compareOp op') r') (hr':OpSem X.K r' rd') (ha:DE X W a ta) (hb:DE X W b tb) (hc:DE X W c tc)
    (hm:lastMarks [op,op'] [b,c]=false:=by with_unfolding_all rfl):DE X W (.Compare a [op,op'] [b,c] pos) (dChain rd rd' ta tb tc):=aa3 (pe_chain ho ho' ha hb hc hm) fun _ _ _ h=>aiH hr hr' h
theorem aje {op op':CmpOp} {r r':R2} {rd rd':DV->DV->(DV->Prop)->Prop} (ho:OpR X (compareOp op) r) (hr:OpSem X.K r rd) (ho':OpR X (compareOp op') r') (hr':OpSem X.K r' rd') (ha:DE X W a ta) (hb:DE X W b tb) (hc:DE X W c tc)
    (hm:lastMarks [op,op'] [b,c]=false:=by with_unfolding_all rfl):DT X W (.Compare a [op,op'] [b,c] pos) (dTest (dChain rd rd' ta tb tc)):=ahC (pt_chain ho ho' ha hb hc hm) fun _ _ _ h=>aiG (fun _ h=>aiH hr hr' h) h
def DW (X:Cx) (W:WX) (e:Expr) (t:TDT):Prop:=PW X e (upT X.K W t)
theorem DW.dt (h:DW X W e t):DT X W e t:=PW.pt h
theorem aiA (h:DT X W a t):DW X W (.BoolOp .And [a] pos) t:=pw_and1 h
theorem ae4 (h:DT X W a t):DW X W (.BoolOp .Or [a] pos) t:=pw_or1 h
theorem ajc (h:DT X W a t) (h2:DW X W (.BoolOp .And (b::rest) pos) u):DW X W (.BoolOp .And (a::b::rest) pos) (dAnd t u):=ami (pw_and h h2) fun σ H R ⟨G,so,sl,Q,E,rep,q,hq,hx⟩=>
  ⟨G,so,sl,_,E,rep,q,fun k H1 G1 s1 p q1=>by
    cases k with
    | true=>rw [if_pos rfl];exact ⟨G1,so,s1,Q,E,p.rep,(brt q1),fun k' H2 G2 s2 p2 q2=>hq k' H2 G2 s2 (p.trans p2) q2,hx.step p⟩
    | false=>rw [if_neg Bool.false_ne_true];exact hq false H1 G1 s1 p ((brf q1)),hx⟩
theorem afW (h:DT X W a t) (h2:DW X W (.BoolOp .Or (b::rest) pos) u):DW X W (.BoolOp .Or (a::b::rest) pos) (dOr t u):=ami (pw_or h h2) fun σ H R ⟨G,so,sl,Q,E,rep,q,hq,hx⟩=>
  ⟨G,so,sl,_,E,rep,q,fun k H1 G1 s1 p q1=>by
    cases k with
    | true=>rw [if_pos rfl];exact hq true H1 G1 s1 p ((brt q1))
    | false=>rw [if_neg Bool.false_ne_true];exact ⟨G1,so,s1,Q,E,p.rep,(brf q1),fun k' H2 G2 s2 p2 q2=>hq k' H2 G2 s2 (p.trans p2) q2,hx.step p⟩,hx⟩
theorem acQ (h:DT X W a t):DT X W (.UnaryOp .Not a pos) (dNot t):=ahC (pt_not h) fun σ H R ⟨G,so,sl,Q,E,rep,q,hq,hx⟩=>⟨G,so,sl,_,E,rep,q,fun k H1 G1 s1 p q1=>hq (!k) H1 G1 s1 p q1,hx⟩
theorem aeH (hc:DT X W c t) (ha:DE X W a ta) (hb:DE X W b tb):DE X W (.IfExp c a b pos) (dIfE t ta tb):=aa3 (pe_ifExp hc ha hb) fun σ H R ⟨G,so,sl,Q,E,rep,q,hq,hx⟩=>
  ⟨G,so,sl,_,E,rep,q,fun k H1 G1 s1 p q1=>by
    cases k with
    | true=>rw [if_pos rfl];exact ⟨G1,so,s1,Q,E,p.rep,(brt q1),fun v H2 G2 dv s2 p2 q2=>hq v H2 G2 dv s2 (p.thenE p2) q2,hx.step p⟩
    | false=>rw [if_neg Bool.false_ne_true];exact ⟨G1,so,s1,Q,E,p.rep,(brf q1),fun v H2 G2 dv s2 p2 q2=>hq v H2 G2 dv s2 (p.thenE p2) q2,hx.step p⟩,hx⟩
theorem afX {op:BoolOp} (h:DE X W a ta):DE X W (.BoolOp op [a] pos) ta:=pe_one h
theorem agF (ha:DE X W a ta) (hb:DE X W (.BoolOp .And (b::rest) pos) tb):DE X W (.BoolOp .And (a::b::rest) pos) (dAndV ta tb):=aa3 (pe_and ha hb) fun σ H R ⟨G,so,sl,Q,E,rep,q,hq,hx⟩=>
  ⟨G,so,sl,_,E,rep,q,fun v H1 G1 dv s1 p q1=>by
    split at q1
    · have w:=p.val
      cases w
      rename_i k
      refine ⟨_,rfl,?_⟩
      cases k with
      | true=>rw [if_pos rfl];exact ⟨G1,so,s1,Q,E,p.rep,(brt q1),fun v H2 G2 dv s2 p2 q2=>hq v H2 G2 dv s2 (p.toPost.thenE p2) q2,hx.step p.toPost⟩
      | false=>rw [if_neg Bool.false_ne_true];exact hq _ H1 G1 _ s1 p ((brf q1))
    · exact q1.elim,hx⟩
theorem de_or (ha:DE X W a ta) (hb:DE X W (.BoolOp .Or (b::rest) pos) tb):DE X W (.BoolOp .Or (a::b::rest) pos) (dOrV ta tb):=aa3 (pe_or ha hb) fun σ H R ⟨G,so,sl,Q,E,rep,q,hq,hx⟩=>
  ⟨G,so,sl,_,E,rep,q,fun v H1 G1 dv s1 p q1=>by
    split at q1
    · have w:=p.val
      cases w
      rename_i k
      refine ⟨_,rfl,?_⟩
      cases k with
      | true=>rw [if_pos rfl];exact hq _ H1 G1 _ s1 p ((brt q1))
      | false=>rw [if_neg Bool.false_ne_true];exact ⟨G1,so,s1,Q,E,p.rep,(brf q1),fun v H2 G2 dv s2 p2 q2=>hq v H2 G2 dv s2 (p.toPost.thenE p2) q2,hx.step p.toPost⟩
    · exact q1.elim,hx⟩
theorem aoL (ha:DE X W a ta):DE X W (.UnaryOp .Not a pos) (dNotV ta):=aa3 (pe_notT ha) fun σ H R ⟨G,so,sl,Q,E,rep,q,hq,hx⟩=>⟨G,so,sl,_,E,rep,q,fun v H1 G1 dv s1 p q1=>by
    obtain ⟨k,tv,qk⟩:=amd p.rep.h p.val q1
    exact ⟨k,tv,hq _ H1 G1 _ s1 (p.toPost.thenV (.dat p.rep.h (.bl _))) qk⟩,hx⟩
def dats:List DV->Option (List D)
  | []=>some []
  | .d x::r=>(dats r).map (x::·)
  | _=>none
theorem afm {G:Hp} {so:So}:∀ {vs:List V} {ds:List DV} {xs:List D},VsOk K G so H vs ds->dats ds=some xs->DAll K G vs xs
  | _,_,_,.nil,e=>by cases e;exact .nil
  | _,_,_,.cons (d:=.d x) h n t,e=>by
    unfold dats at e
    rename_i ds0
    cases z:dats ds0 with
    | none=>rw [z] at e;cases e
    | some ys=>rw [z] at e;cases e;exact .cons h (afm t z)
  | _,_,_,.cons (d:=.src) h n t,e=>by cases e
  | _,_,_,.cons (d:=.own o) h n t,e=>by cases e
  | _,_,_,.cons (d:=.bor o) h n t,e=>by cases e
  | _,_,_,.cons (d:=.see o) h n t,e=>by cases e
@[irreducible] def tupR (xs:List DV) (Q:DV->Prop):Prop:=match dats xs with
  | some ds=>ds.length<=szl/\Q (.d (.tup ds))
  | none=>False
@[irreducible] def lstR (xs:List DV) (Q:DV->Prop):Prop:=match dats xs with
  | some ds=>ds.length<=szl/\Q (.own (.lst ds))
  | none=>False
theorem ab1 {es:List Expr} {ta:TDA} {k:Nat} (h:DA X W es ta):DE X W (.Tuple es k pos) (dCB tupR ta):=aa3 (pe_tup h) fun σ H R ⟨G,so,sl,Q,E,rep,q,hq,hx⟩=>
  ⟨G,so,sl,_,E,rep,q,fun vs H1 G1 ds s1 p w q1=>by
    unfold tupR at q1
    split at q1
    · rename_i xs e
      have a:=afm w e
      exact ⟨by rw [a.length,<- acr];exact q1.1,fun l n=>hq _ _ _ _ s1 (p.thenV (.tuple p.rep.h n a)) q1.2⟩
    · exact q1.elim,hx⟩
theorem adP {es:List Expr} {ta:TDA} (h:DA X W es ta):DE X W (.List es pos) (dCB lstR ta):=aa3 (pe_lst h) fun σ H R ⟨G,so,sl,Q,E,rep,q,hq,hx⟩=>
  ⟨G,so,sl,_,E,rep,q,fun vs H1 G1 ds s1 p w q1=>by
    unfold lstR at q1
    split at q1
    · rename_i xs e
      have a:=afm w e
      exact ⟨by rw [a.length,<- acr];exact q1.1,fun l n=>hq _ _ _ _ s1 (p.thenV (.list p.rep.h n a)) q1.2⟩
    · exact q1.elim,hx⟩
end
abbrev TDG:=D->DSt->(DSt->Prop)->Prop
abbrev TDGs:=List D->DSt->(DSt->Prop)->Prop
def GSem (K:PySem.W.Frag) (n:Nat) (ix:List Nat) (g:TG) (gd:TDG):Prop:=∀ (G:Hp) (so:So) (σ:L2.St) (H:Hp) (sl:DSt) (v:V) (d:D) (Q:DSt->Prop) (R:L2.St->Hp->Prop),σ.length=n->Rep K G so σ H sl->DOk K G v d->gd d sl Q->
  (∀ σ' sl',PostS K G so σ H sl σ' H G sl'->(∀ j,j∉ix->σ'[j]?=σ[j]?/\sl'[j]?=sl[j]?)->Q sl'->R σ' H)->g v σ H R
def GsSem (K:PySem.W.Frag) (n:Nat) (ix:List Nat) (g:TGs) (gd:TDGs):Prop:=∀ (G:Hp) (so:So) (σ:L2.St) (H:Hp) (sl:DSt) (vs:List V) (ds:List D) (Q:DSt->Prop) (R:L2.St->Hp->Prop),σ.length=n->Rep K G so σ H sl->DAll K G vs ds->gd ds sl Q->
  (∀ σ' sl',PostS K G so σ H sl σ' H G sl'->(∀ j,j∉ix->σ'[j]?=σ[j]?/\sl'[j]?=sl[j]?)->Q sl'->R σ' H)->g vs σ H R
structure DG (X:Cx) (ix:List Nat) (tg:Expr) (g:TG) (gd:TDG):Prop where
  pg:PG X tg g
  sem:GSem X.K X.N.length ix g gd
structure DGs (X:Cx) (ix:List Nat) (tg:List Expr) (g:TGs) (gd:TDGs):Prop where
  pg:PGs X tg g
  sem:GsSem X.K X.N.length ix g gd
def gD (i:Nat):TDG:=fun d sl Q=>Q (sl.set i (some (.d d)))
def gNilD:TDGs:=fun ds sl Q=>match ds with
  | []=>Q sl
  | _=>False
def gConsD (g:TDG) (r:TDGs):TDGs:=fun ds sl Q=>match ds with
  | d::ds'=>g d sl fun s1=>r ds' s1 Q
  | []=>False
def gTupD (n:Nat) (r:TDGs):TDG:=fun d sl Q=>match d with
  | .tup ds=>ds.length=n/\r ds sl Q
  | _=>False
section
variable {X:Cx} {pos:Pos} {i:Nat} {x:Str} {ix iy:List Nat} {e:Expr} {es:List Expr} {gd:TDG} {gs:TDGs} {g1:TG} {g2:TGs}
theorem akV {K:PySem.W.Frag} {n:Nat} (hi:i < n):GSem K n [i] (gName i) (gD i):=by
  intro G so σ H sl v d Q R hl rep w q k
  have h0:i < σ.length:=by rw [hl];exact hi
  refine k _ _ ((PostE.here rep (dv:=.d d) w (fun _ z=>(nomatch z)) fun _ _ z=>(nomatch z)).set h0 fun _ z=>by cases z) (fun j hj=>?_) q
  exact ⟨List.getElem?_set_ne fun z=>hj (by simp [z]),List.getElem?_set_ne fun z=>hj (by simp [z])⟩
theorem aam (hN:X.N.Nodup) (hi:X.N[i]?=some x) (hx:Loc X.env.scope x) (hf:X.fn x=true\/X.env.scope.names.lookup x=some .local:=by first | exact .inl rfl | exact .inr rfl | assumption):DG X [i] (.Name x pos) (gName i) (gD i):=
  ⟨pg_name hN hi hx hf,akV (List.getElem?_eq_some_iff.mp hi).1⟩
theorem ak9:DGs X [] [] gNil gNilD:=⟨pgs_nil,fun G so σ H sl vs ds Q R hl rep w q k=>by
  unfold gNilD at q
  split at q
  · cases w;exact ⟨rfl,k σ sl (.refl rep) (fun _ _=>⟨rfl,rfl⟩) q⟩
  · exact q.elim⟩
theorem afk (h1:DG X ix e g1 gd) (h2:DGs X iy es g2 gs) (hs:(assignEach (e::es) X.env).map (·.2)=assign e X.env::(assignEach es X.env).map (·.2):=by rfl):DGs X (ix++iy) (e::es) (gCons g1 g2) (gConsD gd gs):=by
  obtain ⟨p1,s1⟩:=h1
  obtain ⟨p2,s2⟩:=h2
  refine ⟨pgs_cons p1 p2 hs,fun G so σ H sl vs ds Q R hl rep w q k=>?_⟩
  unfold gConsD at q
  split at q
  · cases w with
    | cons w1 w2=>
      refine ⟨_,_,rfl,s1 G so σ H sl _ _ _ _ hl rep w1 q fun σ1 sl1 t1 u1 q1=>?_⟩
      refine s2 G so σ1 H sl1 _ _ _ _ (t1.ln.trans hl) t1.rep w2 q1 fun σ2 sl2 t2 u2 q2=>k σ2 sl2 (t1.trans t2) (fun j hj=>?_) q2
      have v2:=u2 j fun z=>hj (List.mem_append_right _ z)
      have v1:=u1 j fun z=>hj (List.mem_append_left _ z)
      exact ⟨v2.1.trans v1.1,v2.2.trans v1.2⟩
  · exact q.elim
theorem amy {k:Nat} {n:Nat} {K:PySem.W.Frag} (hc:X.calm=true) (h:DGs X ix es g2 gs) (hK:X.K=K:=by rfl) (hn:(assignEach es X.env).length=n:=by rfl) (hst:(assignEach es X.env).findIdx? (·.1)=none:=by rfl):DG X ix (.Tuple es k pos) (gTup K n g2) (gTupD n gs):=by
  subst hK
  obtain ⟨p,s⟩:=h
  refine ⟨pg_tup hc p hn hst,fun G so σ H sl v d Q R hl rep w q k=>?_⟩
  unfold gTupD at q
  split at q
  · obtain ⟨a,vs,rfl,g1,a1⟩:=VOk.tup rep.h w
    exact ⟨a,vs,rfl,g1,a1.length.trans q.1,s G so σ H sl vs _ Q R hl rep a1 q.2 k⟩
  · exact q.elim
end
abbrev TDI:=DSt->(List D->DSt->Prop)->XP->Prop
def ItD (K:PySem.W.Frag) (G:Hp) (so:So) (σ:L2.St) (H:Hp) (sl:DSt) (J:It) (ds:List D):Prop:=∃ ps:List Addr,(∀ a∈ps,H a≠none/\so.Nt a/\¬ Own sl σ a)/\
  (∀ (i:Nat) H1,i < ds.length->(∀ a∈ps,H1 a=H a)->J.go i H1)/\(∀ H1,(∀ a∈ps,H1 a=H a)->J.stop ds.length H1)/\
  (∀ (i:Nat) H1 x H2 G1,(∀ a∈ps,H1 a=H a)->Ex G G1->HRep K G1 so H1->J.yld i H1 x H2->i < ds.length->∃ d G2,ds[i]?=some d/\PostV K G1 so H1 x H2 G2 (.d d))
def upI (K:PySem.W.Frag) (W:WX) (t:TDI):TI:=fun σ H R=>∃ G so sl Q E,Rep K G so σ H sl/\t sl Q E/\(∀ J H' G' ds sl',Post K G so σ H sl H' G' sl'->ItD K G' so σ H' sl' J ds->Q ds sl'->R J H')/\XOk K W G so σ H sl E
def DI (X:Cx) (W:WX) (tg iter:Expr) (t:TDI):Prop:=PI X tg iter (upI X.K W t)
theorem ahE {X:Cx} {tg e:Expr} {t t':TI} (h:PI X tg e t) (f:∀ σ H R,t' σ H R->t σ H R):PI X tg e t':=⟨fun pins s σ H Q I q=>h.run pins s σ H Q I (f _ _ _ q)⟩
def signs (z:Str):List D:=z.cps.toList.map fun c=>.str ⟨#[c]⟩
@[irreducible] def iterR:DV->(List D->Prop)->Prop
  | .d (.tup ds),Q=>Q ds
  | .d (.str z),Q=>Q (signs z)
  | .see _,_=>False
  | v,Q=>match v.items with
    | some ds=>Q ds
    | none=>False
def dIter (te:TD):TDI:=fun sl Q E=>te sl (fun x s1=>iterR (pubV x) fun ds=>Q ds s1) E
def intsFrom (lo:Int):Nat->List D
  | 0=>[]
  | n + 1=>.int lo::intsFrom (lo + 1) n
theorem abp (lo:Int) (n:Nat):(intsFrom lo n).length=n:=by
  induction n generalizing lo with
  | zero=>rfl
  | succ n ih=>show (intsFrom (lo + 1) n).length + 1=n + 1;rw [ih]
theorem ahU (lo:Int) (n i:Nat) (h:i < n):(intsFrom lo n)[i]?=some (.int (lo + i)):=by
  induction n generalizing lo i with
  | zero=>omega
  | succ n ih=>
    cases i with
    | zero=>show some (D.int lo)=_;rw [show lo + ((0:Nat):Int)=lo by omega]
    | succ i=>show (intsFrom (lo + 1) n)[i]?=_;rw [ih (lo + 1) i (by omega)];congr 2;omega
def dItA (rd:List DV->(List D->Prop)->Prop) (ta:TDA):TDI:=fun sl Q E=>ta sl (fun xs s1=>rd xs fun ds=>Q ds s1) E
@[irreducible] def alC:List DV->(List D->Prop)->Prop
  | [.d (.int j)],Q=>-(2 ^ 62)<=j/\j < 2 ^ 62/\Q (intsFrom 0 j.toNat)
  | _,_=>False
def enumFrom (i:Int):List D->List D
  | []=>[]
  | d::r=>.tup [.int i,d]::enumFrom (i + 1) r
theorem aja (i:Int) (ds:List D):(enumFrom i ds).length=ds.length:=by
  induction ds generalizing i with
  | nil=>rfl
  | cons d r ih=>show (enumFrom (i + 1) r).length + 1=r.length + 1;rw [ih]
theorem ajb (i:Int) (ds:List D) (j:Nat) (d:D) (h:ds[j]?=some d):(enumFrom i ds)[j]?=some (.tup [.int (i + j),d]):=by
  induction ds generalizing i j with
  | nil=>simp at h
  | cons e r ih=>
    cases j with
    | zero=>cases h;show some (D.tup [.int i,d])=_;rw [show i + ((0:Nat):Int)=i by omega]
    | succ j=>show (enumFrom (i + 1) r)[j]?=_;rw [ih (i + 1) j (by simpa using h)];congr 4;omega
section
variable {X:Cx} {W:WX} {tg e e2 a b:Expr} {te:TD} {ta:TDA} {pos p:Pos}
def iAny (K:PySem.W.Frag) (tl:TE):TI:=fun σ H R=>tl σ H fun x H1=>(∃ a,x=.ref a/\(∃ xs,SqL K H1 a xs)/\R (Itl K a) H1)\/(∃ a,x=.ref a/\(∃ xs,SqT K H1 a xs)/\R (Itt K a) H1)\/∃ z,x=.str z/\R (Its z) H1
theorem aof {tl:TE} (hl:PE X e tl):PI X tg e (iAny X.K tl):=by
  refine ⟨fun pins s σ H R I h=>thn (hl.run pins s σ H _ I h) fun v s1 ⟨x,H1,I1,r1,q1⟩=>?_⟩
  rcases q1 with ⟨a,ex,⟨xs,hq⟩,q⟩ | ⟨a,ex,⟨xs,hq⟩,q⟩ | ⟨z,ex,q⟩
  · subst ex;cases r1
    obtain ⟨its,rv,pl,_⟩:=I1.list hq
    exact wpAny_pyIter_list pl.isList (pi_one (tk:=s1.toks) I1 _ (turn_list a _) ⟨_,Heap.get?_push_size _ rfl,rfl,rfl⟩ q)
  · subst ex;cases r1
    obtain ⟨its,rv,pt,_⟩:=I1.tuple hq
    exact wpAny_pyIter_tuple (show s1.heap.IsTuple a its.toArray from pt) (pi_one (tk:=s1.toks) I1 _ (turn_tuple a _) ⟨_,Heap.get?_push_size _ rfl,rfl,rfl⟩ q)
  · subst ex
    obtain ⟨t,rfl⟩:=r1
    cases ha:z.cps.all (· < 128)
    · exact wpAny_pyIter_wide ha (pi_one (tk:=s1.toks) I1 _ (turn_str _ z t "str_iterator" (.inr rfl)) ⟨_,Heap.get?_push_size _ rfl,rfl,rfl⟩ q)
    · exact wpAny_pyIter_ascii ha (pi_one (tk:=s1.toks) I1 _ (turn_str _ z t "str_ascii_iterator" (.inl rfl)) ⟨_,Heap.get?_push_size _ rfl,rfl,rfl⟩ q)
section
variable {K:PySem.W.Frag} {G H:Hp} {so:So} {σ:L2.St} {sl:DSt} {v w:V} {dv dw:DV}
theorem VOk.listS {ds:List D} (rep:Rep K G so σ H sl) (w:VOk K G so H v dv) (n:∀ o a,dv=.own o\/dv=.bor o->v=.ref a->¬ Own sl σ a) (m:∀ o,dv≠.see o) (e:dv.items=some ds) :
    ∃ a vs,v=.ref a/\H a=some (.lst vs)/\DAll K G vs ds/\H a≠none/\so.Nt a/\¬ Own sl σ a:=by
  unfold DV.items at e
  split at e
  · cases e
    cases w with
    | lst g al=>exact ⟨_,_,rfl,rep.h.ex _ _ g,al,by rw [rep.h.ex _ _ g];simp,rep.h.nsrc g,fun z=>by have:=(rep.nown z).2.1;rw [g] at this;cases this⟩
  · cases e
    obtain ⟨c,rfl,g,s,vs,e1,al⟩:=w
    exact ⟨c,vs,rfl,e1,al,by rw [e1];simp,s,n _ c (.inl rfl) rfl⟩
  · cases e
    obtain ⟨c,rfl,s,vs,e1,al⟩:=w
    exact ⟨c,vs,rfl,e1,al,by rw [e1];simp,s,n _ c (.inr rfl) rfl⟩
  · exact absurd rfl (m _)
  · cases e
theorem anw {c:Addr} {vs:List V} {ds:List D} (e:H c=some (.lst vs)) (al:DAll K G vs ds) (s:so.Nt c) (n:¬ Own sl σ c):ItD K G so σ H sl (Itl K c) ds:=by
  refine ⟨[c],fun a ha=>?_,fun i H1 hi k=>?_,fun H1 k=>?_,fun i H1 x H2 G1 k g h1 y hi=>?_⟩
  · obtain rfl:a=c:=by simpa using ha
    exact ⟨by rw [e];simp,s,n⟩
  · have q:H1 c=some (.lst vs):=by rw [k c (by simp)];exact e
    have hl:i < vs.length:=by rw [al.length];exact hi
    exact ⟨vs,vs[i],SqL.of q,by simp [hl]⟩
  · have q:H1 c=some (.lst vs):=by rw [k c (by simp)];exact e
    exact ⟨vs,SqL.of q,by rw [al.length];exact Nat.le_refl _⟩
  · have q:H1 c=some (.lst vs):=by rw [k c (by simp)];exact e
    obtain ⟨rfl,y⟩:=y
    obtain ⟨d,e1,e2⟩:=al.getV (y vs (SqL.of q))
    exact ⟨d,G1,e1,.dat h1 (e2.mono g)⟩
theorem aoy {c:Addr} {vs:List V} {ds:List D} (rep:Rep K G so σ H sl) (e:SqT K G c vs) (al:DAll K G vs ds):ItD K G so σ H sl (Itt K c) ds:=by
  have kp:∀ (H1:Hp),(∀ a∈(if G c=none then [] else [c]),H1 a=H a)->SqT K H1 c vs:=fun H1 k=>by
    rcases e with (e | ⟨o,e⟩) | e
    · refine .inl (.inl ?_)
      rw [k c (by rw [if_neg (by rw [e];simp)];simp)];exact rep.h.ex _ _ e
    · refine .inl (.inr ⟨o,?_⟩)
      rw [k c (by rw [if_neg (by rw [e];simp)];simp)];exact rep.h.ex _ _ e
    · exact .inr e
  refine ⟨if G c=none then [] else [c],fun a ha=>?_,fun i H1 hi k=>?_,fun H1 k=>?_,fun i H1 x H2 G1 k g h1 y hi=>?_⟩
  · split at ha
    · simp at ha
    · rename_i z
      obtain rfl:a=c:=by simpa using ha
      obtain ⟨o,eo⟩:=Option.ne_none_iff_exists'.mp z
      exact ⟨by rw [rep.h.ex _ _ eo];simp,rep.h.nsrc eo,fun q=>z (rep.nown q).2.1⟩
  · have hl:i < vs.length:=by rw [al.length];exact hi
    exact ⟨vs,vs[i],kp H1 k,by simp [hl]⟩
  · exact ⟨vs,kp H1 k,by rw [al.length];exact Nat.le_refl _⟩
  · obtain ⟨rfl,y⟩:=y
    obtain ⟨d,e1,e2⟩:=al.getV (y vs (kp _ k))
    exact ⟨d,G1,e1,.dat h1 (e2.mono g)⟩
theorem aoz {z:Str}:ItD K G so σ H sl (Its z) (signs z):=by
  have hl:(signs z).length=z.cps.size:=by unfold signs;simp
  refine ⟨[],fun a ha=>by simp at ha,fun i H1 hi k=>by rw [hl] at hi;exact hi,fun H1 k=>Nat.le_of_eq hl.symm,fun i H1 x H2 G1 k g h1 y hi=>?_⟩
  obtain ⟨rfl,c,e,rfl⟩:=y
  refine ⟨.str ⟨#[c]⟩,G1,?_,.dat h1 (.str _)⟩
  unfold signs
  rw [List.getElem?_map,Array.getElem?_toList,e];rfl
theorem aoA {lo:Int} {n:Nat}:ItD K G so σ H sl (Itr lo n) (intsFrom lo n):=by
  have hl:=abp lo n
  refine ⟨[],fun a ha=>by simp at ha,fun i H1 hi k=>by rw [hl] at hi;exact hi,fun H1 k=>Nat.le_of_eq hl.symm,fun i H1 x H2 G1 k g h1 y hi=>?_⟩
  obtain ⟨rfl,rfl⟩:=y
  rw [hl] at hi
  exact ⟨_,G1,ahU lo n i hi,.dat h1 (.int _)⟩
theorem akR {c:Addr} {vs:List V} {ds:List D} (e:H c=some (.lst vs)) (al:DAll K G vs ds) (s:so.Nt c) (n:¬ Own sl σ c):ItD K G so σ H sl (Ite K c) (enumFrom 0 ds):=by
  have hl:=aja 0 ds
  have W:=walk_enum (K:=K) (a:=c) (xs:=vs)
  refine ⟨[c],fun a ha=>?_,fun i H1 hi k=>?_,fun H1 k=>?_,fun i H1 x H2 G1 k g h1 y hi=>?_⟩
  · obtain rfl:a=c:=by simpa using ha
    exact ⟨by rw [e];simp,s,n⟩
  · exact W.goes i H1 (by rw [al.length,<- hl];exact hi) (SqL.of (by rw [k c (by simp)];exact e))
  · rw [hl,<- al.length];exact W.stops H1 (SqL.of (by rw [k c (by simp)];exact e))
  · obtain ⟨T,x1,x2,rfl,nT,rfl,f1,f2⟩:=W.yields i H1 x H2 (by rw [al.length,<- hl];exact hi) (SqL.of (by rw [k c (by simp)];exact e)) y
    cases f1
    obtain ⟨d,e1,e2⟩:=al.getV f2
    refine ⟨_,_,ajb 0 ds i d e1,.tuple h1 nT (.cons ?_ (.cons (e2.mono g) .nil))⟩
    rw [show (0:Int) + (i:Nat)=(i:Nat) by omega];exact .int _
end
end
section
variable {X:Cx} {W:WX} {tg e e2 a b:Expr} {te:TD} {ta:TDA} {pos p:Pos}
theorem abX (h:DE X W e te):DI X W tg e (dIter te):=ahE (aof h) fun σ H R ⟨G,so,sl,Q,E,rep,q,hq,hx⟩=>by
  refine ⟨G,so,sl,_,E,rep,q,fun x H1 G0 dx s1 p0 q1=>?_,hx⟩
  obtain ⟨G1,p⟩:=p0.pub
  have w:=p.val
  have sv:=p.sepv
  have rp:=p.rep
  have pp:=p.toPost
  generalize hz:pubV dx=dz at w q1 sv
  unfold iterR at q1
  split at q1
  · cases w with
    | tup g al=>exact .inr (.inl ⟨_,rfl,⟨_,ex_t rp.h.ex g⟩,hq _ H1 G1 _ s1 pp (aoy rp g al) q1⟩)
  · cases w;exact .inr (.inr ⟨_,rfl,hq _ H1 G1 _ s1 pp aoz q1⟩)
  · exact q1.elim
  · split at q1
    · rename_i ns _o ds e1
      obtain ⟨c,vs,rfl,e2,al,_,s,n⟩:=VOk.listS rp w (fun o c e' q'=>sv c o e' q') (fun o z=>ns o z) e1
      exact .inl ⟨c,rfl,⟨_,SqL.of e2⟩,hq _ H1 G1 _ s1 pp (anw e2 al s n) q1⟩
    · exact q1.elim
theorem VsOk.v1 {K:PySem.W.Frag} {G H:Hp} {so:So} {vs:List V} {d:DV} (h:VsOk K G so H vs [d]):∃ v,vs=[v]/\VOk K G so H v d/\∀ o,d≠.own o:=by
  cases h with
  | cons w n t=>cases t;exact ⟨_,rfl,w,n⟩
theorem VsOk.v2 {K:PySem.W.Frag} {G H:Hp} {so:So} {vs:List V} {d e:DV} (h:VsOk K G so H vs [d,e]):∃ v w,vs=[v,w]/\VOk K G so H v d/\VOk K G so H w e/\(∀ o,d≠.own o)/\∀ o,e≠.own o:=by
  cases h with
  | cons w n t=>
    obtain ⟨v,rfl,w2,n2⟩:=t.v1
    exact ⟨_,v,rfl,w,w2,n,n2⟩
theorem akb {K:PySem.W.Frag} {G H:Hp} {so:So} {σ:L2.St} {sl:DSt} (rep:Rep K G so σ H sl) {c:Addr} {o:HO} (g:G c=some o):¬ Own sl σ c:=fun z=>by
  have:=(rep.nown z).2.1
  rw [g] at this;cases this
theorem acf (hg:Gl X "range") (hm:X.mg "range"=none) (h:DA X W [a] ta) (hs:starEach [a] X.env=[(false,eval a X.env)]:=by rfl):DI X W tg (.Call (.Name "range" p) [a] [] pos) (dItA alC ta):=ahE (pi_range1 hg hm h hs) fun σ H R ⟨G,so,sl,Q,E,rep,q,hq,hx⟩=>by
  refine ⟨G,so,sl,_,E,rep,q,fun vs H1 G1 ds s1 pp w q1=>?_,hx⟩
  unfold alC at q1
  split at q1
  · obtain ⟨v,rfl,w1,_⟩:=w.v1
    cases w1
    exact ⟨_,rfl,q1.1,q1.2.1,hq _ H1 G1 _ s1 pp aoA q1.2.2⟩
  · exact q1.elim
end
section
variable {X:Cx} {W:WX} {e e2:Expr} {ta:TDA} {pos p:Pos}
end
def ale (g:TDG) (tb:TDS) (E:EndsD):List D->DSt->Prop
  | [],sl=>E.nx sl
  | d::r,sl=>g d sl fun s1=>tb { nx:=ale g tb E r,ct:=ale g tb E r,bk:=E.nx,rt:=E.rt,xc:=E.xc } s1
@[irreducible] def dForL (g:TDG) (tb:TDS) (E:EndsD) (ds:List D) (sl:DSt):Prop:=ale g tb E ds sl
theorem aeF {g:TDG} {tb:TDS} {E:EndsD} {sl:DSt}:dForL g tb E [] sl=E.nx sl:=by unfold dForL;rfl
theorem adN {g:TDG} {tb:TDS} {E:EndsD} {sl:DSt} {d:D} {r:List D}:dForL g tb E (d::r) sl=g d sl fun s1=>tb { nx:=dForL g tb E r,ct:=dForL g tb E r,bk:=E.nx,rt:=E.rt,xc:=E.xc } s1:=by unfold dForL;rfl
def dFor (ti:TDI) (g:TDG) (tb:TDS):TDS:=fun E sl=>ti sl (fun ds s1=>dForL g tb E ds s1) E.xc
section
variable {X:Cx} {W:WX} {tg iter:Expr} {body:List Stmt} {ti:TDI} {g:TDG} {tb:TDS} {pos:Pos} {ix:List Nat} {g':TG}
theorem adO (hp:PassesOwn (model X.prog X.w) X.A X.env X.xe) (hc:X.calm=true) (hi:DI X W tg iter ti) (hg:DG X ix tg g' g) (hb:DSs X W body tb) (hs:∀ x,foldedSetIterable iter X.env x=pure x:=by intro _;rfl):DS X W (.For tg iter body [] pos) (dFor ti g tb):=by
  obtain ⟨pg,sg⟩:=hg
  refine akf (ps_for hp hc hi pg hb hs) fun D σ H hl ⟨G,so,sl,E,rep,q,ok⟩=>?_
  refine ⟨G,so,sl,_,E.xc,rep,q,fun J H1 G1 ds s1 p0 it q1=>?_,ok.xc.ex⟩
  obtain ⟨ps,prot,goes,stops,yields⟩:=it
  have same:∀ {σ':L2.St} {H' G':Hp} {sl':DSt},PostS X.K G1 so σ H1 s1 σ' H' G' sl'->∀ a∈ps,H' a=H1 a:=fun {σ' H' G' sl'} t a ha=>by
    obtain ⟨n,s,w⟩:=prot a ha
    obtain ⟨o,eo⟩:=Option.ne_none_iff_exists'.mp n
    rw [t.keep a o eo s w,eo]
  have ok1:=ok.step p0.s
  refine ⟨fun i m σ' H'=>m=ds.length - i/\i<=ds.length/\∃ G' sl',PostS X.K G1 so σ H1 s1 σ' H' G' sl'/\dForL g tb E (ds.drop i) sl',⟨ds.length,by simp,Nat.zero_le _,G1,s1,.refl p0.rep,q1⟩,?_⟩
  rintro i m σ' H' ⟨rfl,hi,G',sl',t,q2⟩
  by_cases hlt:i < ds.length
  · refine .inr ⟨goes i H' hlt (same t),fun σ'' H''=>∃ G'' sl'',PostS X.K G1 so σ H1 s1 σ'' H'' G'' sl''/\dForL g tb E (ds.drop (i + 1)) sl'',fun σ'' H'' ⟨G'',sl'',t2,q3⟩=>⟨ds.length - (i + 1),by omega,rfl,hlt,G'',sl'',t2,q3⟩,fun x H2 y=>?_⟩
    obtain ⟨d,G2,ed,pv⟩:=yields i H' x H2 G' (same t) t.ex t.rep.h y hlt
    have pe:=pv.slots t.rep
    have t2:=t.trans pe.toPost.s
    rw [List.drop_eq_getElem_cons hlt] at q2
    have ed':ds[i]=d:=by rw [List.getElem?_eq_getElem hlt] at ed;exact Option.some.inj ed
    rw [ed',adN] at q2
    refine sg G2 so σ' H2 sl' x d _ _ (t.ln.trans hl) pe.rep pe.val q2 fun σ3 sl3 t3 _ q3=>?_
    have t13:=t2.trans t3
    refine ⟨G2,so,sl3,_,t3.rep,q3,⟨fun σ4 H4 G4 s4 t4 q4=>⟨G4,s4,t13.trans t4,q4⟩,fun σ4 H4 G4 s4 t4 q4=>ok1.nx σ4 H4 G4 s4 (t13.trans t4) q4,fun σ4 H4 G4 s4 t4 q4=>⟨G4,s4,t13.trans t4,q4⟩,fun v H4 G4 dv z4 t4 q4=>ok1.rt v H4 G4 dv z4 (t13.thenR t4) q4,ok1.xc.step t13⟩⟩
  · have e:i=ds.length:=by omega
    subst e
    rw [List.drop_length,aeF] at q2
    exact .inl ⟨stops H' (same t),ok1.nx σ' H' G' sl' t q2⟩
end
def dWhile (c:TDT) (tb:TDS):TDS:=fun E sl=>∃ I:Nat->DSt->Prop,(∃ m,I m sl)/\∀ m s,I m s->c s (fun b s1=>Br b (tb { nx:=fun s2=>∃ m',m' < m/\I m' s2,ct:=fun s2=>∃ m',m' < m/\I m' s2,bk:=E.nx,rt:=E.rt,xc:=E.xc } s1) (E.nx s1)) E.xc
section
variable {X:Cx} {W:WX} {c:Expr} {body:List Stmt} {tc:TDT} {tb:TDS} {pos:Pos}
theorem alY (hp:PassesOwn (model X.prog X.w) X.A X.env X.xe) (hc:DT X W c tc) (hb:DSs X W body tb):DS X W (.While c body [] pos) (dWhile tc tb):=by
  refine adu (ps_while hp hc hb) fun D σ H ⟨G,so,sl,E,rep,⟨I,⟨m0,i0⟩,turn⟩,ok⟩=>?_
  refine ⟨fun m σ' H'=>∃ G' sl',PostS X.K G so σ H sl σ' H' G' sl'/\I m sl',⟨m0,G,sl,.refl rep,i0⟩,?_⟩
  rintro m σ' H' ⟨G',sl',t,im⟩
  have okt:=ok.step t
  refine ⟨G',so,sl',_,E.xc,t.rep,turn m sl' im,fun b H1 G1 s1 p q=>?_,okt.xc.ex⟩
  have t1:=t.trans p.s
  cases b with
  | true=>
    refine iteT ?_
    refine ⟨fun σ2 H2=>∃ m',m' < m/\∃ G2 s2,PostS X.K G so σ H sl σ2 H2 G2 s2/\I m' s2,fun σ2 H2 h=>h,?_⟩
    exact ⟨G1,so,s1,_,p.rep,(brt q),⟨fun σ4 H4 G4 s4 t4 ⟨m',hm,q4⟩=>⟨m',hm,G4,s4,t1.trans t4,q4⟩,fun σ4 H4 G4 s4 t4 q4=>ok.nx σ4 H4 G4 s4 (t1.trans t4) q4,fun σ4 H4 G4 s4 t4 ⟨m',hm,q4⟩=>⟨m',hm,G4,s4,t1.trans t4,q4⟩,fun v H4 G4 dv z4 t4 q4=>ok.rt v H4 G4 dv z4 (t1.thenR t4) q4,ok.xc.step t1⟩⟩
  | false=>
    refine iteF ?_
    exact ok.nx σ' H1 G1 s1 t1 ((brf q))
end
def wipeD (sl:DSt):List Nat->DSt
  | []=>sl
  | v::vs=>(wipeD sl vs).set v none
def anT (g:TDG) (tt:TDT) (te:TD) (vs:List Nat) (Q:DV->DSt->Prop):List D->List D->DSt->Prop
  | [],acc,sl=>Q (.own (.lst acc)) sl
  | d::r,acc,sl=>g d sl fun s1=>tt s1 (fun b s2=>Br b (te s2 (fun x s3=>match pubV x with
    | .d y=>acc.length < szl/\anT g tt te vs Q r (acc++[y]) (wipeD s3 vs)
    | _=>False) fun _ _ _=>False) (anT g tt te vs Q r acc (wipeD s2 vs))) fun _ _ _=>False
@[irreducible] def dLcL (g:TDG) (tt:TDT) (te:TD) (vs:List Nat) (Q:DV->DSt->Prop) (ds acc:List D) (sl:DSt):Prop:=anT g tt te vs Q ds acc sl
theorem lcL_nil {g:TDG} {tt:TDT} {te:TD} {vs:List Nat} {Q:DV->DSt->Prop} {acc:List D} {sl:DSt}:dLcL g tt te vs Q [] acc sl=Q (.own (.lst acc)) sl:=by unfold dLcL;rfl
theorem adV {g:TDG} {tt:TDT} {te:TD} {vs:List Nat} {Q:DV->DSt->Prop} {d:D} {r acc:List D} {sl:DSt}:dLcL g tt te vs Q (d::r) acc sl=g d sl fun s1=>tt s1 (fun b s2=>Br b (te s2 (fun x s3=>match pubV x with
    | .d y=>acc.length < szl/\dLcL g tt te vs Q r (acc++[y]) (wipeD s3 vs)
    | _=>False) fun _ _ _=>False) (dLcL g tt te vs Q r acc (wipeD s2 vs))) fun _ _ _=>False:=by unfold dLcL;rfl
def dLc (ti:TDI) (g:TDG) (tt:TDT) (te:TD) (vs:List Nat):TD:=fun sl Q E=>ti sl (fun ds s1=>dLcL g tt te vs Q ds [] (wipeD s1 vs)) E
def dYes:TDT:=fun sl Q _=>Q true sl
def DTs (X:Cx) (W:WX) (ifs:List Expr) (t:TDT):Prop:=PTs X ifs (upT X.K W t)
abbrev W0:WX:=fun _ _ _ _=>False
section
variable {X:Cx} {W:WX}
theorem aaJ:DTs X W [] dYes:=⟨fun pins s σ H Q I ⟨G,so,sl,Q',E,rep,q,hq,hx⟩=>pts_nil.run pins s σ H Q I (hq true H G sl (.refl rep) q)⟩
theorem aiB {c:Expr} {t:TDT} (h:DT X W c t):DTs X W [c] t:=pts_one h
section
variable {K:PySem.W.Frag} {G:Hp} {so:So} {σ:L2.St} {H:Hp} {sl:DSt} {vs:List Nat}
theorem aak {i:Nat} {x:DV}:∀ {vs:List Nat},(wipeD sl vs)[i]?=some (some x)->sl[i]?=some (some x)/\i∉vs
  | [],h=>⟨h,by simp⟩
  | v::vs,h=>by
    unfold wipeD at h
    rcases get_set h with ⟨rfl,e⟩ | ⟨ne,e⟩
    · cases e
    · obtain ⟨q1,q2⟩:=aak e
      exact ⟨q1,fun z=>(List.mem_cons.mp z).elim ne q2⟩
theorem ahk:∀ (vs:List Nat),(wipeD sl vs).length=sl.length
  | []=>rfl
  | v::vs=>by unfold wipeD;rw [List.length_set,ahk vs]
theorem abI {c:Addr} (h:Own (wipeD sl vs) (wipe σ vs) c):Own sl σ c:=by
  obtain ⟨i,o,e1,e2⟩:=h
  exact ⟨i,o,(aak e1).1,(wipe_some e2).1⟩
theorem Rep.wipe (r:Rep K G so σ H sl) (vs:List Nat):Rep K G so (L2.wipe σ vs) H (wipeD sl vs):=
  ⟨r.h,by rw [ahk,wipe_length];exact r.len,fun i d e=>by
    obtain ⟨e1,n⟩:=aak e
    obtain ⟨v,f1,f2⟩:=r.slots i d e1
    exact ⟨v,by rw [wipe_out n];exact f1,f2⟩,
    fun i j o o' a e1 e2 e3 e4=>r.sep i j o o' a (aak e1).1 (aak e2).1 (wipe_some e3).1 (wipe_some e4).1,
    fun i o a e1 e2 z=>r.bor i o a (aak e1).1 (wipe_some e2).1 (abI z),fun i o e=>r.nse i o (aak e).1⟩
theorem ah4 {σ1 σ2:L2.St} (hl:σ1.length=σ2.length) (h:∀ j,j∉vs->σ1[j]?=σ2[j]?):wipe σ1 vs=wipe σ2 vs:=by
  have z:∀ (σ:L2.St) (j:Nat) (vs:List Nat),j∈vs->j < σ.length->(wipe σ vs)[j]?=some none:=by
    intro σ j vs
    induction vs with
    | nil=>intro h;simp at h
    | cons v r ih=>
      intro hm hj
      unfold wipe
      by_cases e:v=j
      · subst e;rw [List.getElem?_set_self (by rw [wipe_length];exact hj)]
      · rw [List.getElem?_set_ne e]
        rcases List.mem_cons.mp hm with q | q
        · exact absurd q.symm e
        · exact ih q hj
  refine List.ext_getElem? fun j=>?_
  by_cases m:j∈vs
  · by_cases hj:j < σ1.length
    · rw [z σ1 j vs m hj,z σ2 j vs m (by rw [<- hl];exact hj)]
    · rw [List.getElem?_eq_none (by rw [wipe_length];omega),List.getElem?_eq_none (by rw [wipe_length];omega)]
  · rw [wipe_out m,wipe_out m];exact h j m
theorem agy (vs:List Nat):L2.wipe (L2.wipe σ vs) vs=L2.wipe σ vs:=ah4 (wipe_length σ vs) fun j m=>wipe_out m
theorem Post.unwipe {H1 G1:Hp} {s1:DSt} (r:Rep K G so σ H sl) (p:Post K G so (L2.wipe σ vs) H (wipeD sl vs) H1 G1 s1):Post K G so σ H sl H1 G1 s1:=by
  have lk:∀ (i:Nat) (dv:DV),s1[i]?=some (some dv)->(L2.wipe σ vs)[i]?=σ[i]?:=fun i dv e=>by
    obtain ⟨v,f1,_⟩:=p.rep.slots i dv e
    rw [f1,(wipe_some f1).1]
  have ow:∀ c,Own s1 σ c->Own s1 (L2.wipe σ vs) c:=fun c ⟨i,o,e1,e2⟩=>⟨i,o,e1,by rw [lk i _ e1];exact e2⟩
  refine ⟨p.ex,⟨p.rep.h,by rw [p.rep.len,wipe_length],fun i dv e=>?_,fun i j o o' a e1 e2 e3 e4=>?_,fun i o a e1 e2 z=>?_,p.rep.nse⟩,p.keep,fun a n g s w=>p.frm a n g s fun z=>w (abI z),fun a z=>abI (p.sub a (ow a z)),fun i o e=>let ⟨o1,e1⟩:=p.bsub i o e;⟨o1,(aak e1).1⟩⟩
  · obtain ⟨v,f1,f2⟩:=p.rep.slots i dv e
    exact ⟨v,(wipe_some f1).1,f2⟩
  · exact p.rep.sep i j o o' a e1 e2 (by rw [lk i _ e1];exact e3) (by rw [lk j _ e2];exact e4)
  · exact p.rep.bor i o a e1 (by rw [lk i _ e1];exact e2) (ow a z)
end
variable {elt tg iter:Expr} {ifs:List Expr} {scope:Scope} {own:List (Str × Nat)} {pos spos:Pos} {ti:TDI} {g:TDG} {tt:TDT} {te:TD} {ix:List Nat}
theorem anY {K:PySem.W.Frag} {n:Nat} {g':TG} {σ:L2.St} {H:Hp} {R:VK} (vs:List Nat) (hl:σ.length=n) (sg:GSem K n ix g' g) (hix:∀ j,j∈ix->j∈vs) (h:up K W (dLc ti g tt te vs) σ H R):tLc (upI K W ti) g' (upT K W0 tt) (up K W0 te) vs σ H R:=by
  obtain ⟨G,so,sl,Q,E,rep,q,hq,hx⟩:=h
  refine ⟨G,so,sl,_,E,rep,q,fun J H1 G1 ds s1 p0 it q1=>?_,hx⟩
  obtain ⟨ps,prot,goes,stops,yields⟩:=it
  intro C hC
  have nsC:so.Nt C:=p0.rep.h.there hC
  have rw1:=p0.rep.wipe vs
  have psC:∀ a∈ps,a≠C:=fun a ha z=>(prot a ha).1 (z ▸ hC)
  refine ⟨fun i m H'=>m=ds.length - i/\i<=ds.length/\∃ G' sl' us acc,Post K G1 so (L2.wipe σ vs) H1 (wipeD s1 vs) H' G' sl'/\H' C=some (.lst us)/\G' C=none/\DAll K G' us acc/\dLcL g tt te vs Q (ds.drop i) acc sl',
    ⟨ds.length,by simp,Nat.zero_le _,G1,_,[],[],?_,upd_same,p0.rep.h.ex.free hC,.nil,q1⟩,?_⟩
  · have pv:=PostV.list (K:=K) (G:=G1) (so:=so) (ds:=[]) rw1.h hC .nil
    exact (pv.slots rw1).toPost
  rintro i m H' ⟨rfl,hi,G',sl',us,acc,t,hCl,gC,al,q2⟩
  have same:∀ a∈ps,H' a=H1 a:=fun a ha=>by
    obtain ⟨n1,s,w⟩:=prot a ha
    exact ace t.keep n1 s
  have noC:∀ {sl'':DSt} {σ'':L2.St},(∀ a,Own sl'' σ'' a->Own (wipeD s1 vs) (L2.wipe σ vs) a)->¬ Own sl'' σ'' C:=fun f z=>(p0.rep.nown (abI (f C z))).1 hC
  have borC:∀ (j:Nat) (o:OO),(wipeD s1 vs)[j]?=some (some (.bor o))->(L2.wipe σ vs)[j]?=some (some (.ref C))->False:=fun j o e1 e2=>by
    obtain ⟨v,f1,f2⟩:=rw1.slots j _ e1
    rw [e2] at f1;cases f1
    obtain ⟨b,z,_,k⟩:=f2
    cases z
    exact k.there hC
  by_cases hlt:i < ds.length
  · refine .inr ⟨goes i H' hlt same,fun H''=>∃ G'' sl'' us' acc',Post K G1 so (L2.wipe σ vs) H1 (wipeD s1 vs) H'' G'' sl''/\H'' C=some (.lst us')/\G'' C=none/\DAll K G'' us' acc'/\dLcL g tt te vs Q (ds.drop (i + 1)) acc' sl'',
      fun H'' ⟨G'',sl'',us',acc',h1,h2,h3,h4,h5⟩=>⟨ds.length - (i + 1),by omega,rfl,hlt,G'',sl'',us',acc',h1,h2,h3,h4,h5⟩,fun x H2 y=>?_⟩
    obtain ⟨d,G2,ed,pv⟩:=yields i H' x H2 G' same t.ex t.rep.h y hlt
    have pe:=pv.slots t.rep
    have C2:H2 C=some (.lst us):=pe.keep C _ hCl nsC
    have g2:G2 C=none:=pe.frm C (by rw [hCl];simp) gC nsC (noC t.sub)
    rw [List.drop_eq_getElem_cons hlt] at q2
    have ed':ds[i]=d:=by rw [List.getElem?_eq_getElem hlt] at ed;exact Option.some.inj ed
    rw [ed',adV] at q2
    refine sg G2 so _ H2 sl' x d _ _ ((wipe_length σ vs).trans hl) pe.rep pe.val q2 fun σ3 sl3 t3 u3 q3=>?_
    have e3:L2.wipe σ3 vs=L2.wipe σ vs:=by
      rw [<- agy (σ:=σ) vs]
      exact ah4 t3.ln fun j hj=>(u3 j fun z=>hj (hix j z)).1
    have sub3:∀ a,Own (wipeD sl3 vs) (L2.wipe σ3 vs) a->Own (wipeD s1 vs) (L2.wipe σ vs) a:=fun a z=>by
      rw [e3] at z
      by_cases w:Own sl' (L2.wipe σ vs) a
      · exact t.sub a w
      · obtain ⟨j,o,z1,z2⟩:=z
        have z2':σ3[j]?=some (some (.ref a)):=by
          rw [<- e3] at z2;exact (wipe_some z2).1
        have ow3:Own sl3 σ3 a:=⟨j,o,(aak z1).1,z2'⟩
        obtain ⟨n1,g1,s1'⟩:=t3.rep.nown ow3
        exact absurd ow3 (t3.sub a n1 s1' w)
    have sub3':∀ a,Own sl3 σ3 a->Own sl' (L2.wipe σ vs) a:=fun a z=>by
      by_cases w:Own sl' (L2.wipe σ vs) a
      · exact w
      · obtain ⟨n1,g1,s1'⟩:=t3.rep.nown z
        exact absurd z (t3.sub a n1 s1' w)
    have bs3:∀ (j:Nat) (o:OO),sl3[j]?=some (some (.bor o))->j∉vs->∃ o',(wipeD s1 vs)[j]?=some (some (.bor o')):=fun j o e n=>by
      rw [(u3 j fun z=>n (hix j z)).2] at e
      exact t.bsub j o e
    refine ⟨e3,G2,so,sl3,_,fun _ _ _=>False,t3.rep,q3,fun b H4 G4 s4 p4 q4=>?_,fun _ _ _ _ _ _ _ _ z=>z⟩
    have C4:H4 C=some (.lst us):=p4.keep C _ C2 nsC
    have n3C:¬ Own sl3 σ3 C:=fun z=>noC t.sub (sub3' C z)
    have g4:G4 C=none:=p4.frm C (by rw [C2];simp) g2 nsC n3C
    have k4:∀ a o,H1 a=some o->so.Nt a->H4 a=some o:=fun a o e s=>p4.keep a o (pe.keep a o (t.keep a o e s) s) s
    have f4:∀ a,H1 a≠none->G1 a=none->so.Nt a->¬ Own (wipeD s1 vs) (L2.wipe σ vs) a->G4 a=none:=fun a n1 g1 s w=>by
      have n2:¬ Own sl' (L2.wipe σ vs) a:=fun z=>w (t.sub a z)
      have h':H' a≠none:=by rw [ace t.keep n1 s];exact n1
      have h2:H2 a≠none:=by rw [ace pe.keep h' s];exact h'
      exact p4.frm a h2 (pe.frm a h' (t.frm a n1 g1 s w) s n2) s fun z=>n2 (sub3' a z)
    have bs4:∀ (j:Nat) (o:OO),s4[j]?=some (some (.bor o))->j∉vs->∃ o',(wipeD s1 vs)[j]?=some (some (.bor o')):=fun j o e n=>by
      obtain ⟨o1,e1⟩:=p4.bsub j o e
      exact bs3 j o1 e1 n
    cases b with
    | false=>
      refine iteF ⟨G4,wipeD s4 vs,us,acc,⟨t.ex.trans (pe.ex.trans p4.ex),?_,k4,f4,fun a z=>?_,fun j o e=>bs4 j o (aak e).1 (aak e).2⟩,C4,g4,al.mono (pe.ex.trans p4.ex),(brf q4)⟩
      · have r:=p4.rep.wipe vs;rw [e3] at r;exact r
      · refine t.sub a (sub3' a (p4.sub a (abI (vs:=vs) ?_)))
        rw [e3];exact z
    | true=>
      refine iteT ⟨G4,so,s4,_,fun _ _ _=>False,p4.rep,(brt q4),fun y H5 G5 dy s5 p5' q5=>?_,fun _ _ _ _ _ _ _ _ z=>z⟩
      obtain ⟨G6,p5⟩:=p5'.pub
      have wv:=p5.val
      split at q5
      · rename_i yd ey
        rw [ey] at wv
        have n4C:¬ Own s4 σ3 C:=fun z=>n3C (p4.sub C z)
        have C5:H5 C=some (.lst us):=p5.keep C _ C4 nsC
        have g5:G6 C=none:=p5.frm C (by rw [C4];simp) g4 nsC n4C
        have k5:∀ a o,H1 a=some o->so.Nt a->H5 a=some o:=fun a o e s=>p5.keep a o (k4 a o e s) s
        have f5:∀ a,H1 a≠none->G1 a=none->so.Nt a->¬ Own (wipeD s1 vs) (L2.wipe σ vs) a->G6 a=none:=fun a n1 g1 s w=>by
          have n2:¬ Own sl' (L2.wipe σ vs) a:=fun z=>w (t.sub a z)
          have h4:H4 a≠none:=by rw [ace k4 n1 s];exact n1
          exact p5.frm a h4 (f4 a n1 g1 s w) s fun z=>n2 (sub3' a (p4.sub a z))
        have bs5:∀ (j:Nat) (o:OO),s5[j]?=some (some (.bor o))->j∉vs->∃ o',(wipeD s1 vs)[j]?=some (some (.bor o')):=fun j o e n=>by
          obtain ⟨o1,e1⟩:=p5.bsub j o e
          exact bs4 j o1 e1 n
        have al5:DAll K G6 us acc:=al.mono (pe.ex.trans (p4.ex.trans p5.ex))
        have lu:us.length=acc.length:=al5.length
        refine ⟨us,C5,by rw [lu,<- acr];exact q5.1,G6,wipeD s5 vs,us++[y],acc++[yd],⟨t.ex.trans (pe.ex.trans (p4.ex.trans p5.ex)),?_,fun a o e s=>?_,f5,fun a z=>?_,fun j o e=>bs5 j o (aak e).1 (aak e).2⟩,upd_same,g5,al5.append (.cons wv .nil),q5.2⟩
        · have r:=p5.rep.wipe vs
          rw [e3] at r
          refine ⟨⟨fun a o e=>?_,fun a k e=>?_,r.h.ok,aeZ r.h.tp (by intro _ z;cases z)⟩,r.len,fun j dv e=>?_,r.sep,r.bor,r.nse⟩
          · rw [upd_ne (ne_of_none e g5)];exact r.h.ex a o e
          · exact (r.h.vol a k e).keep (Ex.refl _) (r.h.vol a k e).g (upd_ne fun z=>nsC (z ▸ ⟨k,e⟩))
          · obtain ⟨v,f1,f2⟩:=r.slots j dv e
            refine ⟨v,f1,?_⟩
            have key:∀ a:Addr,a≠C->(upd H5 C (.lst (us++[y]))) a=H5 a:=fun a z=>upd_ne z
            cases dv with
            | d z=>exact f2
            | src=>exact f2
            | own o=>
              obtain ⟨a,r1,r2,r3,r4⟩:=f2
              subst r1
              have z:a≠C:=fun z=>by
                subst z
                exact noC (fun a z=>t.sub a (sub3' a (p4.sub a (p5.sub a (abI (vs:=vs) (by rw [e3];exact z)))))) ⟨j,o,e,f1⟩
              exact ⟨a,rfl,r2,r3,r4.keep (Ex.refl _) (key a z)⟩
            | bor o=>
              obtain ⟨a,r1,r3,r4⟩:=f2
              subst r1
              have z:a≠C:=fun z=>by
                subst z
                obtain ⟨o1,z1⟩:=bs5 j o (aak e).1 (aak e).2
                exact borC j o1 z1 f1
              exact ⟨a,rfl,r3,r4.keep (Ex.refl _) (key a z)⟩
            | see o=>exact absurd e (r.nse j o)
            | mu y D gs=>exact SlOk.muU f2 (Ex.refl _) nsC
            | gh _ _=>exact SlOk.ghU f2 (Ex.refl _) nsC
        · rw [upd_ne (fun z=>by subst z;rw [hC] at e;cases e)];exact k5 a o e s
        · exact t.sub a (sub3' a (p4.sub a (p5.sub a (abI (vs:=vs) (by rw [e3];exact z)))))
      · exact q5.elim
  · have e:i=ds.length:=by omega
    subst e
    rw [List.drop_length,lcL_nil] at q2
    refine .inl ⟨stops H' same,hq _ H' G' _ sl' ?_ q2⟩
    have pu:=t.unwipe p0.rep
    refine (p0.thenE { pu with val:=⟨C,rfl,gC,nsC,us,hCl,al⟩,new:=fun a o _ z=>?_,sepv:=fun a o _ z w=>?_,nbs:=fun a o j o' _ z e1 e2=>?_ })
    · cases z;exact .inl hC
    · cases z;exact (p0.rep.nown (pu.sub _ w)).1 hC
    · cases z
      obtain ⟨o1,z1⟩:=t.bsub j o' e1
      have lkj:(L2.wipe σ vs)[j]?=some (some (.ref C)):=by rw [wipe_out (aak z1).2];exact e2
      exact borC j o1 z1 lkj
theorem acU {g':TG} (hc:X.calm=true) (hN:X.N.Nodup) (hi:DI X W tg iter ti) (ok:BlkOk X.N X.env.scope scope own)
    (hg:∀ s H C cl fp,DG (X.blk s H scope (compEnvC scope cl C X.env) fp) ix tg g' g) (ht:∀ s H C cl fp,DTs (X.blk s H scope (compEnvC scope cl C X.env) fp) W0 ifs tt)
    (he:∀ s H C cl fp,DE (X.blk s H scope (compEnvC scope cl C X.env) fp) W0 elt te) (hix:∀ j,j∈ix->j∈own.map (·.2):=by decide) (hs:∀ x,foldedSetIterable iter X.env x=pure x:=by intro _;rfl) :
    DE X W (.ListComp elt [⟨tg,iter,ifs,0⟩] scope pos) (dLc ti g tt te (own.map (·.2))):=by
  have b:=pe_lc (tt:=upT X.K W0 tt) (te:=up X.K W0 te) (ifs:=ifs) (elt:=elt) (pos:=pos) hc hN hi ok (fun s H C cl fp=>(hg s H C cl fp).pg) ht he hs
  exact ⟨fun pins s σ H Q I q=>b.run pins s σ H Q I (anY _ I.len (hg s H 0 [] []).sem hix q)⟩
theorem afj {g':TG} {i:Nat} {y:Str} {py:Pos} (hc:X.calm=true) (hN:X.N.Nodup) (hy:X.N[i]?=some y) (hyl:X.env.scope.names.lookup y=some .local) (hsw:swapsWith (.ListComp elt [⟨tg,iter,ifs,0⟩] scope pos) (some (.Name y py)) spos.line X.env=pure true)
    (hi:DI X W tg iter ti) (ok:BlkOk X.N X.env.scope scope own)
    (hg:∀ s H C cl fp,DG (X.blk s H scope (compEnvC scope cl C X.env) fp) ix tg g' g) (ht:∀ s H C cl fp,DTs (X.blk s H scope (compEnvC scope cl C X.env) fp) W0 ifs tt)
    (he:∀ s H C cl fp,DE (X.blk s H scope (compEnvC scope cl C X.env) fp) W0 elt te) (hix:∀ j,j∈ix->j∈own.map (·.2):=by decide) (hs:∀ x,foldedSetIterable iter X.env x=pure x:=by intro _;rfl) :
    DS X W (.Assign [.Name y py] (.ListComp elt [⟨tg,iter,ifs,0⟩] scope pos) spos) (dSet (dLc ti g tt te (own.map (·.2))) i):=by
  have b:=ps_setLc (tt:=upT X.K W0 tt) (te:=up X.K W0 te) (pos:=pos) (spos:=spos) (py:=py) hc hN hy hyl hsw hi ok (fun s H C cl fp=>(hg s H C cl fp).pg) ht he hs
  refine ⟨fun pins s σ H D I q=>b.run pins s σ H D I ?_⟩
  have q2:=ajP (K:=X.K) (W:=W) (te:=dLc ti g tt te (own.map (·.2))) (i:=i) (D:=D) (σ:=σ) (H:=H) (fun _=>by rw [I.len];exact (List.getElem?_eq_some_iff.mp hy).1) q
  exact anY _ I.len (hg s H 0 [] []).sem hix q2
end
theorem ac4 {X:Cx}:L2N.Takes X (fun _ _ _ _=>False):=fun _ _ ⟨_,_,_,_,_,_,_,_,_,_,_,_,_,_,_,_,z⟩=>z.elim
theorem tkOf {X:Cx} {E:XK} (hs:X.stack=X.env::X.outer) (hf:X.env.frame=some X.env.locals) (hex:X.ex=[]) {E₁:Value->Shared->Prop}
    (hx:X.xe=fun e s'=>wpAny (model X.prog X.w) X.A (leaving X.env e) (fun _ s''=>L2N.CX X.prog X.w X.outer X.H_0 X.s_0 E e s'') E₁ s'):L2N.Takes X (fun cls d _ H=>E cls d H):=L2N.takes_of hs hf hex hx
abbrev XE':=Value->List (Str × D)->Prop
abbrev SpD:=List DV->(DV->Prop)->XE'->Prop
structure PostH (K:PySem.W.Frag) (G:Hp) (so:So) (H:Hp) (H' G':Hp):Prop where
  ex:Ex G G'
  hrep:HRep K G' so H'
  keep:∀ a o,H a=some o->so.Nq a->H' a=some o
  frm:∀ a,H a≠none->G a=none->so.Nt a->G' a=none
def upSp (K:PySem.W.Frag) (sp:SpD):Sp:=fun vs H Q E=>∃ G so args QD ED,HRep K G so H/\VsOk K G so H vs args/\sp args QD ED/\(∀ v H' G' dv,PostV K G so H v H' G' dv->QD dv->Q v H')/\
  (∀ cls d H' G' fs,PostH K G so H H' G'->XdOk K G' H' d fs->ED cls fs->E cls d H')
def So.drop (so:So):So:=so.filter fun p=>match p.2 with
  | .mt _=>false
  | _=>true
theorem So.drop_sub {so:So} {p:Addr × Kd} (h:p∈so.drop):p∈so:=(List.mem_filter.mp h).1
theorem So.drop_nt {so:So} {a:Addr} (h:so.Nt a):so.drop.Nt a:=fun ⟨k,e⟩=>h ⟨k,So.drop_sub e⟩
theorem So.drop_nq {so:So} {a:Addr} (h:so.Nq a):so.drop.Nt a:=fun ⟨k,e⟩=>by
  obtain ⟨C,rfl⟩:=h k (So.drop_sub e)
  exact absurd (List.mem_filter.mp e).2 (by simp)
theorem So.drop_mt {K:PySem.W.Frag} {so:So} {a C:Addr} (ok:SoOk K so) (h:(a,Kd.mt C)∈so):so.Nq a:=fun k e=>⟨C,ok.uq a k (.mt C) e h⟩
theorem So.drop_in {so:So} {a:Addr} {k:Kd} (h:(a,k)∈so) (n:∀ C,k≠.mt C):(a,k)∈so.drop:=List.mem_filter.mpr ⟨h,by cases k<;>first | rfl | exact absurd rfl (n _)⟩
section
variable {K:PySem.W.Frag} {G G' H H':Hp} {so:So}
theorem SoOk.drop (h:SoOk K so):SoOk K so.drop:=⟨fun q hq=>So.drop_in (h.tb q hq) (fun _ e=>by cases e),fun a k k' e e'=>h.uq a k k' (So.drop_sub e) (So.drop_sub e')⟩
theorem HRep.drop (h:HRep K G so H):HRep K G so.drop H:=⟨h.ex,fun a k e=>h.vol a k (So.drop_sub e),h.ok.drop,h.tp⟩
theorem VOk.drop {v:V} {dv:DV} (h:VOk K G so H v dv):VOk K G so.drop H v dv:=by
  cases dv with
  | d x=>exact h
  | src=>obtain ⟨a,⟨c,e⟩,q⟩:=h;exact ⟨a,⟨c,So.drop_in e (fun _ z=>by cases z)⟩,q⟩
  | own o=>obtain ⟨a,q,g,s,k⟩:=h;exact ⟨a,q,g,So.drop_nt s,k⟩
  | bor o=>obtain ⟨a,q,s,k⟩:=h;exact ⟨a,q,So.drop_nt s,k⟩
  | see o=>obtain ⟨a,q,s,k⟩:=h;exact ⟨a,q,So.drop_nt s,k⟩
  | mu _ _ _=>exact h
  | gh _ _=>exact h
theorem VsOk.drop:∀ {vs:List V} {ds:List DV},VsOk K G so H vs ds->VsOk K G so.drop H vs ds
  | _,_,.nil=>.nil
  | _,_,.cons h n t=>.cons h.drop n (VsOk.drop t)
structure PostU (K:PySem.W.Frag) (G:Hp) (so:So) (H:Hp) (v:V) (H' G':Hp) (dv:DV):Prop where
  ex:Ex G G'
  hrep:HRep K G' so H'
  keep:∀ a o,H a=some o->so.Nt a->H' a=some o
  frm:∀ a,H a≠none->G a=none->so.Nt a->G' a=none
  val:VOk K G' so H' v dv
  new:∀ a o,dv=.own o->v=.ref a->H a=none
  nob:∀ o,dv≠.bor o
structure PostHU (K:PySem.W.Frag) (G:Hp) (so:So) (H:Hp) (H' G':Hp):Prop where
  ex:Ex G G'
  hrep:HRep K G' so H'
  keep:∀ a o,H a=some o->so.Nt a->H' a=some o
  frm:∀ a,H a≠none->G a=none->so.Nt a->G' a=none
theorem HRep.back (h:HRep K G so H) (ex:Ex G G') (p:HRep K G' so.drop H') (kp:∀ a C o,(a,Kd.mt C)∈so->so.drop.Nt a->H a=some o->H' a=some o) (f:∀ a C,(a,Kd.mt C)∈so->so.drop.Nt a->H a≠none->G a=none->G' a=none):HRep K G' so H':=by
  refine ⟨p.ex,fun a k e=>?_,h.ok,p.tp⟩
  by_cases c:∃ C,k=.mt C
  · obtain ⟨C,rfl⟩:=c
    have v:=h.vol a _ e
    have nt:=So.drop_nq (So.drop_mt h.ok e)
    obtain ⟨o,ho⟩:=Option.ne_none_iff_exists'.mp v.there
    exact v.keep ex (f a C e nt v.there v.g) (by rw [kp a C o e nt ho,ho])
  · exact p.vol a k (So.drop_in e fun C z=>c ⟨C,z⟩)
theorem PostHU.back (h:HRep K G so H) (p:PostHU K G so.drop H H' G'):PostH K G so H H' G':=by
  refine ⟨p.ex,⟨p.hrep.ex,fun a k e=>?_,h.ok,p.hrep.tp⟩,fun a o e s=>p.keep a o e (So.drop_nq s),fun a n g s=>p.frm a n g (So.drop_nt s)⟩
  by_cases c:∃ C,k=.mt C
  · obtain ⟨C,rfl⟩:=c
    have v:=h.vol a _ e
    have nt:=So.drop_nq (So.drop_mt h.ok e)
    exact v.keep p.ex (p.frm a v.there v.g nt) (ace p.keep v.there nt)
  · exact p.hrep.vol a k (So.drop_in e fun C z=>c ⟨C,z⟩)
theorem PostU.h {v:V} {dv:DV} (p:PostU K G so H v H' G' dv):PostHU K G so H H' G':=⟨p.ex,p.hrep,p.keep,p.frm⟩
theorem PostU.back {v:V} {dv:DV} (h:HRep K G so H) (p:PostU K G so.drop H v H' G' dv) (ns:∀ o,dv≠.see o):PostV K G so H v H' G' dv:=by
  have b:=p.h.back h
  refine ⟨b.ex,b.hrep,b.keep,b.frm,?_,p.new,p.nob⟩
  have w:=p.val
  cases dv with
  | d x=>exact w
  | src=>obtain ⟨a,⟨c,e⟩,q⟩:=w;exact ⟨a,⟨c,So.drop_sub e⟩,q⟩
  | own o=>obtain ⟨a,q,g,s,k⟩:=w;exact ⟨a,q,g,h.there (p.new a o rfl q),k⟩
  | bor o=>exact absurd rfl (p.nob o)
  | see o=>exact absurd rfl (ns o)
  | mu _ _ _=>exact w
  | gh _ _=>exact w
end
theorem PostV.u {K:PySem.W.Frag} {G G' H H':Hp} {so:So} {v:V} {dv:DV} (p:PostV K G so H v H' G' dv):PostU K G so H v H' G' dv:=⟨p.ex,p.hrep,fun a o e s=>p.keep a o e s.q,p.frm,p.val,p.new,p.nob⟩
theorem PostU.trans {K:PySem.W.Frag} {G H:Hp} {so:So} {v1 v2:V} {d1 d2:DV} {H1 H2 G1 G2:Hp} (a:PostU K G so H v1 H1 G1 d1) (b:PostU K G1 so H1 v2 H2 G2 d2):PostU K G so H v2 H2 G2 d2:=
  ⟨a.ex.trans b.ex,b.hrep,fun c o e s=>b.keep c o (a.keep c o e s) s,fun c n g s=>b.frm c (by rw [ace a.keep n s];exact n) (a.frm c n g s) s,b.val,fun c o e q=>by
    cases z:H c with
    | none=>rfl
    | some u=>
      have n:=b.new c o e q
      by_cases s:so.Vol c
      · exact absurd n (a.hrep.vth s)
      · rw [a.keep c u z s] at n
        exact (nomatch n),b.nob⟩
theorem aiI {K:PySem.W.Frag} {sp:SpD} {vs:List V} {H:Hp} {Q:VK} {E:XK} (h:upSp K sp vs H Q E):∃ G so args QD ED,HRep K G so H/\VsOk K G so H vs args/\sp args QD ED/\(∀ v H' G' dv,PostU K G so H v H' G' dv->(∀ o,dv≠.see o)->QD dv->Q v H')/\
    (∀ cls d H' G' fs,PostHU K G so H H' G'->XdOk K G' H' d fs->ED cls fs->E cls d H'):=by
  obtain ⟨G,so,as,QD,ED,hrep,wv,q,hq,hx⟩:=h
  exact ⟨G,so.drop,as,QD,ED,hrep.drop,wv.drop,q,fun v H' G' dv p n z=>hq v H' G' dv (p.back hrep n) z,fun cls d H' G' fs p z1 z2=>hx cls d H' G' fs (p.back hrep) z1 z2⟩
structure FnG (P:Program) (w:World) (K:PySem.W.Frag) (mg:Str->Option Value) (base:Heap) (k:Nat) (f:Addr) (fd:FuncData) (ps:List Str) (sp:SpD):Prop where
  len:∀ args Q E,sp args Q E->args.length=ps.length
  run:∀ (A:Around) (outer:List Env) (s:Shared) (H:Hp) (args:Args) (us:List Value) (vs:List V) (Q:VK) (E:XK),Room k A->A.guards=some []->Env0 P w K mg base A outer s H->BindsTo s fd args (ps.zip us)->Vals vs us->upSp K sp vs H Q E->
    codeAny (model P w) A (.call (.ref f) args) (CR (L2N.CX P w) outer P w H s Q E) s
theorem FnG.mono {P:Program} {w:World} {K:PySem.W.Frag} {mg:Str->Option Value} {base:Heap} {j k:Nat} {f:Addr} {fd:FuncData} {ps:List Str} {sp:SpD} (F:FnG P w K mg base j f fd ps sp) (h:j<=k):FnG P w K mg base k f fd ps sp:=
  ⟨F.len,fun A outer s H args us vs Q E hr=>F.run A outer s H args us vs Q E (hr.mono h)⟩
def startD (N:List Str) (args:List DV):DSt:=args.map some++List.replicate (N.length - args.length) none
theorem VsOk.get {K:PySem.W.Frag} {G:Hp} {so:So} {H:Hp}:∀ {vs:List V} {ds:List DV} {i:Nat} {d:DV},VsOk K G so H vs ds->ds[i]?=some d->∃ v,vs[i]?=some v/\VOk K G so H v d/\∀ o,d≠.own o
  | _,_,_,_,.nil,e=>by simp at e
  | _,_,0,_,.cons h n _,e=>by simp at e;subst e;exact ⟨_,rfl,h,n⟩
  | _,_,i + 1,_,.cons _ _ t,e=>by
    obtain ⟨v,h1,h2⟩:=VsOk.get (i:=i) t (by simpa using e)
    exact ⟨v,by simpa using h1,h2⟩
theorem acZ {N:List Str} {args:List DV} {i:Nat} {d:DV} (h:(startD N args)[i]?=some (some d)):args[i]?=some d:=by
  unfold startD at h
  by_cases hi:i < args.length
  · rw [List.getElem?_append_left (by simpa using hi),List.getElem?_map] at h
    cases e:args[i]? with
    | none=>rw [e] at h;cases h
    | some a=>rw [e] at h;cases h;rfl
  · rw [List.getElem?_append_right (by simpa using hi),List.getElem?_replicate] at h
    split at h<;>cases h
theorem ahB {K:PySem.W.Frag} {G:Hp} {so:So} {H:Hp} {N:List Str} {vs:List V} {args:List DV} (h:HRep K G so H) (w:VsOk K G so H vs args) (ns:∀ (i:Nat) (o:OO),args[i]?≠some (.see o)):Rep K G so (L2.start N vs) H (startD N args):=by
  have lv:=w.length
  have no:∀ a,¬ Own (startD N args) (L2.start N vs) a:=fun a ⟨i,o,e,_⟩=>by
    obtain ⟨_,_,_,n⟩:=w.get (acZ e)
    exact n o rfl
  refine ⟨h,by unfold startD L2.start;simp [lv],fun i d e=>?_,fun i j o o' a e1 _ _ _=>?_,fun i o a _ _=>no a,fun i o e=>ns i o (acZ e)⟩
  · obtain ⟨v,e1,e2,_⟩:=w.get (acZ e)
    refine ⟨v,?_,VOk.slot e2⟩
    unfold L2.start
    have hi:i < vs.length:=(List.getElem?_eq_some_iff.mp e1).1
    rw [List.getElem?_append_left (by simpa using hi),List.getElem?_map,e1];rfl
  · obtain ⟨_,_,_,n⟩:=w.get (acZ e1)
    exact absurd rfl (n o)
def retQ (Q:DV->Prop):DV->Prop
  | .see _=>False
  | .bor _=>False
  | .mu _ _ _=>False
  | .gh _ _=>False
  | v=>Q v
theorem agP {Q:DV->Prop} {v:DV} (h:retQ Q v):(∀ o,v≠.bor o)/\Q v:=by
  cases v with
  | d x=>exact ⟨fun _ z=>(nomatch z),h⟩
  | src=>exact ⟨fun _ z=>(nomatch z),h⟩
  | own o=>exact ⟨fun _ z=>(nomatch z),h⟩
  | bor o=>exact h.elim
  | see o=>exact h.elim
  | mu _ _ _=>exact h.elim
  | gh _ _=>exact h.elim
theorem aj9 {Q:DV->Prop} {v:DV} (h:retQ Q v):∀ o,v≠.see o:=by
  cases v with
  | see o=>exact h.elim
  | _=>exact fun _ z=>(nomatch z)
theorem aeb {P:Program} {w:World} {K:PySem.W.Frag} {mg:Str->Option Value} {base:Heap} {x qual:Str} {params:Arguments} {body:List Stmt} {scope:Scope} {dvs:List V} {kws:List (Str × V)} {f:Addr} {fd:FuncData} {N ps:List Str} {k:Nat} {sp:SpD} {t:TDS}
    (F:FunD K x qual params body scope dvs kws f fd) (S:FnScope N ps scope) (len:∀ args Q E,sp args Q E->args.length=ps.length) (nsee:∀ args Q E,sp args Q E->∀ (i:Nat) (o:OO),args[i]?≠some (.see o))
    (hd:∀ (cdv:Value) (A:Around) (outer:List Env) (s:Shared) (H:Hp) (E:XK),Room k (A.deeper (envOfC qual scope s.heap.objs.size f cdv))->(cxOf (L2N.CX P w) P w K mg base N qual scope f cdv A outer s H E).A.guards=some []->
      DSs (cxOf (L2N.CX P w) P w K mg base N qual scope f cdv A outer s H E) (fun cls d _ H'=>E cls d H') body t)
    (hr:∀ args Q E,sp args Q E->t { nx:=fun _=>Q (.d .non),rt:=fun v _=>retQ Q v,bk:=fun _=>False,ct:=fun _=>False,xc:=fun cls fs _=>E cls fs } (startD N args)):FnG P w K mg base (k + 1) f fd ps sp:=by
  obtain ⟨oc,od,dV,kV,doc,pm,an,cdv,ct,osl,rfl,lk,hcd,_,_⟩:=F.ex
  refine ⟨len,fun A outer s H args us vs Q E hroom hg e0 hb r hsp=>?_⟩
  obtain ⟨G,so,as,QD,ED,hrep,wv,q,hq,hx⟩:=aiI hsp
  have hl:vs.length=ps.length:=wv.length.trans (len _ _ _ q)
  have KX:K.In s.heap:=e0.mod.kin.keeps fun b o e=>(e0.bs b o e).1
  have lim:s.heap.NoLimit:=e0.mod.nolimit.keeps fun b o e=>(e0.bs b o e).1
  have hkind:((ps.zip us).all fun y=>scope.names.lookup y.1 == some .local || scope.names.lookup y.1 == some .cell)=true:=by
    rw [List.all_eq_true]
    rintro ⟨n,u⟩ hy
    rcases S.par n (List.of_mem_zip hy).1 with z | z
    · show (scope.names.lookup n == some .local || _)=true
      rw [z];rfl
    · show (scope.names.lookup n == some .local || scope.names.lookup n == some .cell)=true
      rw [z];rfl
  refine Att.call_fn KX lim lk hcd hroom.depth hb hkind (fun s1 x=>?_) S.co S.gen S.kind
  have I:=inv_start (CX:=L2N.CX P w) (E:=E) S hroom.hd e0 hl r x
  have rep:Rep K G so (L2.start N vs) H (startD N as):=ahB hrep wv (nsee _ _ _ q)
  have no:∀ a,¬ Own (startD N as) (L2.start N vs) a:=fun a ⟨i,o,e,_⟩=>by
    obtain ⟨_,_,_,n⟩:=wv.get (acZ e)
    exact n o rfl
  have body:=(hd cdv A outer s H E (hroom.deeper _) hg).run [] s1 (L2.start N vs) H { nx:=fun _ H'=>Q .non H',rt:=Q } I ⟨G,so,startD N as,_,rep,hr as QD ED q,
    ⟨fun σ' H' G' sl' p z=>hq .non H' G' (.d .non) ⟨p.ex,p.rep.h,fun a o e sa=>p.keep a o e sa (no a),fun a n g sa=>p.frm a n g sa (no a),.non,fun _ _ e=>(nomatch e),fun _ e=>(nomatch e)⟩ (fun _ e=>(nomatch e)) z,
     fun _ _ _ _ _ z=>z.elim,fun _ _ _ _ _ z=>z.elim,
     fun v H' G' dv _ p z=>hq v H' G' dv ⟨p.ex,p.hrep,fun a o e sa=>p.keep a o e sa (no a),fun a n g sa=>p.frm a n g sa (no a),p.val,fun a o e e2=>(p.new a o e e2).elim (fun k=>k) fun k=>absurd k (no a),(agP z).1⟩ (aj9 z) (agP z).2,
     fun cls d σ' H' G' fs sl' p z1 z2=>hx cls d H' G' fs ⟨p.ex,p.rep.h,fun a o e sa=>p.keep a o e sa (no a),fun a n g sa=>p.frm a n g sa (no a)⟩ z1 z2⟩⟩
  refine wpAny_mono body (fun fl s' hs=>?_) fun e s' hs=>hs
  cases fl with
  | ret u=>
    obtain ⟨v,σ',H',J,rv,z⟩:=hs
    exact ⟨v,H',J.os,J.bare,J.base,J.hok,rv,z⟩
  | next=>
    obtain ⟨σ',H',J,z⟩:=hs
    exact ⟨.non,H',J.os,J.bare,J.base,J.hok,rfl,z⟩
  | brk=>
    obtain ⟨_,_,_,z⟩:=hs
    exact False.elim z
  | cont=>
    obtain ⟨_,_,_,z⟩:=hs
    exact False.elim z
inductive Sel where
  | pos (i:Nat) | kw (j:Nat) | dfl (v:V) (d:D)
def pickV (vs qs:List V):Sel->V
  | .pos i=>vs.getD i .non
  | .kw j=>qs.getD j .non
  | .dfl v _=>v
def pickD (vs qs:List DV):Sel->DV
  | .pos i=>vs.getD i (.d .non)
  | .kw j=>qs.getD j (.d .non)
  | .dfl _ d=>.d d
structure Bd (K:PySem.W.Frag) (fd:FuncData) (ps:List Str) (n:Nat) (ks:List Str) (sel:List Sel):Prop where
  to:∀ (s:Shared) (us ws:List Value) (vs qs:List V),K.In s.heap->us.length=n->ws.length=ks.length->Vals vs us->Vals qs ws->∃ zs,BindsTo s fd ⟨us,ks.zip ws⟩ (ps.zip zs)/\Vals (sel.map (pickV vs qs)) zs
  dok:∀ s∈sel,∀ (v:V) (d:D),s=.dfl v d->∀ G,DOk K G v d
theorem VsOk.getD {K:PySem.W.Frag} {G:Hp} {so:So} {H:Hp}:∀ {vs:List V} {ds:List DV} (i:Nat),VsOk K G so H vs ds->VOk K G so H (vs.getD i .non) (ds.getD i (.d .non))/\∀ o,ds.getD i (.d .non)≠.own o
  | _,_,_,.nil=>⟨.non,fun _ e=>(nomatch e)⟩
  | _,_,0,.cons h n _=>⟨h,n⟩
  | _,_,i + 1,.cons _ _ t=>VsOk.getD i t
theorem VsOk.pick {K:PySem.W.Frag} {G:Hp} {so:So} {H:Hp} {vs qs:List V} {ds es:List DV} (h:VsOk K G so H vs ds) (h2:VsOk K G so H qs es):∀ (sel:List Sel),(∀ s∈sel,∀ (v:V) (d:D),s=.dfl v d->∀ G,DOk K G v d)->VsOk K G so H (sel.map (pickV vs qs)) (sel.map (pickD ds es))
  | [],_=>.nil
  | .pos i::r,k=>.cons (h.getD i).1 (h.getD i).2 (VsOk.pick h h2 r fun s hs=>k s (List.mem_cons_of_mem _ hs))
  | .kw j::r,k=>.cons (h2.getD j).1 (h2.getD j).2 (VsOk.pick h h2 r fun s hs=>k s (List.mem_cons_of_mem _ hs))
  | .dfl v d::r,k=>.cons (k _ (List.mem_cons_self ..) v d rfl G) (fun _ e=>(nomatch e)) (VsOk.pick h h2 r fun s hs=>k s (List.mem_cons_of_mem _ hs))
theorem VsOk.append {K:PySem.W.Frag} {G:Hp} {so:So} {H:Hp}:∀ {vs qs:List V} {ds es:List DV},VsOk K G so H vs ds->VsOk K G so H qs es->VsOk K G so H (vs++qs) (ds++es)
  | _,_,_,_,.nil,s=>s
  | _,_,_,_,.cons h n t,s=>.cons h n (VsOk.append t s)
def dCall (sp:SpD) (n m:Nat) (sel:List Sel) (ta tk:TDA):TD:=fun sl Q E=>ta sl (fun xs s1=>tk s1 (fun ys s2=>xs.length=n/\ys.length=m/\sp (sel.map (pickD xs ys)) (fun v=>Q v s2) fun cls fs=>E cls fs s2) E) E
def DK (X:Cx) (W:WX) (kws:List Keyword) (t:TDA):Prop:=PK X kws (upA X.K W t)
section
variable {X:Cx} {W:WX} {k n:Nat} {f:Addr} {fd:FuncData} {ps ks:List Str} {sp:SpD} {sel:List Sel} {x nm:Str} {p pos kpos:Pos} {e:Expr} {es:List Expr} {kws:List Keyword} {ta tk tk':TDA} {te:TD}
theorem amk {t t':TA} (h:PK X kws t) (g:∀ σ H R,t' σ H R->t σ H R):PK X kws t':=⟨fun pos pins s σ H Q I q=>h.run pos pins s σ H Q I (g _ _ _ q)⟩
theorem amx:DK X W [] dNil:=amk pk_nil fun σ H R ⟨G,so,sl,Q,E,rep,q,hq,_⟩=>hq [] H G [] sl (.refl rep) .nil q
theorem ak7 (ha:DE X W e te) (hr:DK X W kws tk):DK X W (⟨nm,e,kpos⟩::kws) (dCons te tk):=by
  refine amk (pk_cons ha hr) fun σ H R ⟨G,so,sl,Q,E,rep,q,hq,hx⟩=>?_
  refine ⟨G,so,sl,_,E,rep,q,fun x H1 G1 dx s1 p1 h1=>?_,hx⟩
  obtain ⟨G1',p1'⟩:=p1.pub
  refine ⟨G1',so,s1,_,E,p1'.rep,h1,fun vs H2 G2 ds s2 p2 w h2=>?_,hx.step p1'.toPost⟩
  exact hq (x::vs) H2 G2 (pubV dx::ds) s2 (p1'.toPost.trans p2) (.cons (p1'.over p2) (aiT dx) w) h2
theorem aie {pins:List (Addr × Obj)} {σ:L2.St} {H G:Hp} {so:So} {sl:DSt} {s:Shared} {Q:VK} {us ws:List Value} {vs qs:List V} {ds es:List DV} {Q':DV->DSt->Prop} {E:XP} (F:FnG X.prog X.w X.K X.mg X.base k f fd ps sp) (hr:Room k X.A) (hg:X.A.guards=some []) (tk:L2N.Takes X W) (hb:Bd X.K fd ps n ks sel)
    (I:Inv X pins σ H s) (rep:Rep X.K G so σ H sl) (r:Vals vs us) (r2:Vals qs ws) (w:VsOk X.K G so H vs ds) (w2:VsOk X.K G so H qs es) (l1:ds.length=n) (l2:es.length=ks.length)
    (q:sp (sel.map (pickD ds es)) (fun v=>Q' v sl) fun cls fs=>E cls fs sl) (hq:∀ v H' G' dv sl',PostE X.K G so σ H sl v H' G' dv sl'->Q' dv sl'->Q v H') (hx:XOk X.K W G so σ H sl E) :
    wpAny (model X.prog X.w) X.A (call (.ref f) us (ks.zip ws)) (EP X pins σ Q) X.xe s:=by
  obtain ⟨zs,bt,rz⟩:=hb.to s us ws vs qs I.kIn (by rw [<- r.length,w.length,l1]) (by rw [<- r2.length,w2.length,l2]) r r2
  have pk:=w.pick w2 sel hb.dok
  refine wpAny_call (codeAny_mono (F.run X.A X.stack s H ⟨us,ks.zip ws⟩ zs (sel.map (pickV vs qs)) Q (fun cls d H'=>W cls d σ H') hr hg I.env0 bt rz ⟨G,so,_,_,_,rep.h,pk,q,fun v H' G' dv pv z=>hq v H' G' dv sl (pv.slots rep) z,fun cls d H' G' fs ph z1 z2=>?_⟩) fun r s' hz=>?_)
  · have pn:PostV X.K G so H .non H' G' (.d .non):=⟨ph.ex,ph.hrep,ph.keep,ph.frm,.non,fun _ _ e=>(nomatch e),fun _ e=>(nomatch e)⟩
    exact hx cls d H' G' fs sl (pn.slots rep).toPost z1 z2
  · cases r with
    | error e=>exact tk e s' (L2N.XE.of_call I (fun _ _ _ z=>z) hz)
    | ok fl=>
      cases fl with
      | ret u=>exact I.after hz
      | next=>exact False.elim hz
      | brk=>exact False.elim hz
      | cont=>exact False.elim hz
theorem aaf (F:FnG X.prog X.w X.K X.mg X.base k f fd ps sp) (hr:Room k X.A) (hgd:X.A.guards=some []) (tk:L2N.Takes X W) (hb:Bd X.K fd ps n [] sel) (hg:Gl X x) (hm:X.mg x=some (.ref f)) (hk:PySem.W.keepIn X.K (.ref f)=true)
    (ha:DA X W (e::es) ta) (hdb:(x == ("__debug__":Str))=false:=by decide) (he:starEach (e::es) X.env=(false,eval e X.env)::starEach es X.env:=by rfl) (hpl:(backTo pos (starEach es X.env)).any (·.1)=false:=by rfl) :
    DE X W (.Call (.Name x p) (e::es) [] pos) (dCall sp n 0 sel ta dNil):=by
  refine ⟨fun pins s σ H Q I ⟨G,so,sl,Q',E,rep,q,hq,hx⟩=>wpAny_Call_Name_kw (ld_glob I hg hm ?_ hdb)⟩
  refine PySem.W.callWith_K (h₀:=X.base) I.ok.mod.kin hk (thn (ha.run pos pins s σ H (fun vs H1=>∃ G1 ds s1,Post X.K G so σ H sl H1 G1 s1/\VsOk X.K G1 so H1 vs ds/\ds.length=n/\sp (sel.map (pickD ds [])) (fun v=>Q' v s1) fun cls fs=>E cls fs s1) I
    ⟨G,so,sl,_,E,rep,q,fun vs H1 G1 ds s1 p1 w z=>⟨G1,ds,s1,p1,w,z.1,z.2.2⟩,hx⟩) fun us s1 ⟨vs,H1,I1,r,G1,ds,sl1,p1,w,l1,z⟩=>⟨I1.kIn,?_⟩) he hpl
  exact aie (ws:=[]) (qs:=[]) (es:=[]) F hr hgd tk hb I1 p1.rep r .nil w .nil l1 rfl z (fun v H' G' dv sl' pe z'=>hq v H' G' dv sl' (p1.thenE pe) z') (hx.step p1)
end
section
variable {X:Cx} {W:WX} {x:Str} {p pos:Pos} {e:Expr} {es:List Expr} {ta:TDA} {id T:String} {r:List V->Hp->VK->Prop} {rd:List DV->(DV->Prop)->Prop}
theorem aaj (hc:CallR X (.builtin id) r) (hr:CallSem X.K r rd) (hg:Gl X x) (hm:X.mg x=none) (hv:bootBuiltins x=some (.builtin id)) (ha:DA X W (e::es) ta) (hn:x≠"__name__":=by decide) (hdb:(x == ("__debug__":Str))=false:=by decide)
    (he:starEach (e::es) X.env=(false,eval e X.env)::starEach es X.env:=by rfl) (hpl:(backTo pos (starEach es X.env)).any (·.1)=false:=by rfl):DE X W (.Call (.Name x p) (e::es) [] pos) (dCB rd ta):=aa3 (pe_callB hc hg hm hv ha hn hdb he hpl) fun _ _ _ h=>amG hr h
theorem afl (hc:CallR X (.type T) r) (hr:CallSem X.K r rd) (hg:Gl X x) (hm:X.mg x=none) (hv:bootBuiltins x=some (.type T)) (ha:DA X W (e::es) ta) (hn:x≠"__name__":=by decide) (hdb:(x == ("__debug__":Str))=false:=by decide)
    (he:starEach (e::es) X.env=(false,eval e X.env)::starEach es X.env:=by rfl) (hpl:(backTo pos (starEach es X.env)).any (·.1)=false:=by rfl):DE X W (.Call (.Name x p) (e::es) [] pos) (dCB rd ta):=aa3 (pe_callTy hc hg hm hv ha hn hdb he hpl) fun _ _ _ h=>amG hr h
theorem ajh (hc:CallR X (.builtin id) r) (hr:CallSem X.K r rd) (hg:Gl X x) (hm:X.mg x=some (.builtin id)) (ha:DA X W (e::es) ta) (hdb:(x == ("__debug__":Str))=false:=by decide)
    (he:starEach (e::es) X.env=(false,eval e X.env)::starEach es X.env:=by rfl) (hpl:(backTo pos (starEach es X.env)).any (·.1)=false:=by rfl):DE X W (.Call (.Name x p) (e::es) [] pos) (dCB rd ta):=aa3 (pe_callBfun hc hg hm ha hdb he hpl) fun _ _ _ h=>amG hr h
theorem agq {T:String} (hg:Gl X x) (hm:X.mg x=none) (hv:bootBuiltins x=some (.type T)) (hn:x≠"__name__":=by decide) (hdb:(x == ("__debug__":Str))=false:=by decide):DE X W (.Name x pos) (dC (.raw (.ty T))):=de_c (pe_bltn (v:=.ty T) hg hm hv rfl hn hdb) fun _=>.raw _
end
@[irreducible] def lenR:List DV->(DV->Prop)->Prop
  | [.d (.str z)],Q=>z.length<=szl/\Q (.d (.int z.length))
  | [.d (.tup ds)],Q=>Q (.d (.int ds.length))
  | [v],Q=>match v.items with
    | some ds=>Q (.d (.int ds.length))
    | none=>False
  | _,_=>False
@[irreducible] def intC:List DV->(DV->Prop)->Prop
  | [.d (.int i)],Q=>Q (.d (.int i))
  | _,_=>False
@[irreducible] def absR:List DV->(DV->Prop)->Prop
  | [.d (.int i)],Q=>Q (.d (.int (if i < 0 then -i else i)))
  | _,_=>False
@[irreducible] def listR:List DV->(DV->Prop)->Prop
  | [.d (.tup ds)],Q=>Q (.own (.lst ds))
  | [v],Q=>match v.items with
    | some ds=>Q (.own (.lst ds))
    | none=>False
  | _,_=>False
def bools:List D->Option (List Bool)
  | []=>some []
  | .bl b::r=>(bools r).map (b::·)
  | _=>none
@[irreducible] def allR:List DV->(DV->Prop)->Prop
  | [v],Q=>match v.items with
    | some ds=>match bools ds with
      | some bs=>Q (.d (.bl (bs.all id)))
      | none=>False
    | none=>False
  | _,_=>False
@[irreducible] def gcdR:List DV->(DV->Prop)->Prop
  | [.d (.int i),.d (.int j)],Q=>Q (.d (.int (Int.gcd i j)))
  | _,_=>False
section
variable {K:PySem.W.Frag} {X:Cx}
def rLen1 (K:PySem.W.Frag):List V->Hp->VK->Prop:=fun xs H Q=>∃ x n,xs=[x]/\LenV K x H n/\Q (.int n) H
theorem aaR:CallSem K (rLen1 K) lenR:=by
  intro G so H xs dxs Q R h w q k
  unfold lenR at q
  split at q
  · obtain ⟨v,rfl,w1,_⟩:=w.v1
    cases w1
    exact ⟨_,_,rfl,⟨by rw [<- acr];exact q.1,rfl⟩,k _ H G _ (.dat h (.int _)) q.2⟩
  · obtain ⟨v,rfl,w1,_⟩:=w.v1
    obtain ⟨a,vs,rfl,g1,a1⟩:=VOk.tup h w1
    exact ⟨_,_,rfl,.inr ⟨vs,g1,rfl⟩,k _ H G _ (.dat h (by rw [a1.length];exact .int _)) q⟩
  · obtain ⟨v,rfl,w1,_⟩:=w.v1
    split at q
    · rename_i e
      obtain ⟨a,vs,rfl,g1,a1⟩:=VOk.list h w1 e
      exact ⟨_,_,rfl,.inl ⟨vs,SqL.of g1,rfl⟩,k _ H G _ (.dat h (by rw [a1.length];exact .int _)) q⟩
    · exact q.elim
  · exact q.elim
theorem amO:CallSem K (fun xs H Q=>(∃ i,xs=[.int i]/\Q (.int i) H)\/∃ k,xs=[.bl k]/\Q (.int (if k then 1 else 0)) H) intC:=by
  intro G so H xs dxs Q R h w q k
  unfold intC at q
  split at q
  · obtain ⟨v,rfl,w1,_⟩:=w.v1
    cases w1
    exact .inl ⟨_,rfl,k _ H G _ (.dat h (.int _)) q⟩
  · exact q.elim
theorem amT:CallSem K (fun xs H Q=>∃ i,xs=[.int i]/\Q (.int (if i < 0 then -i else i)) H) absR:=by
  intro G so H xs dxs Q R h w q k
  unfold absR at q
  split at q
  · obtain ⟨v,rfl,w1,_⟩:=w.v1
    cases w1
    exact ⟨_,rfl,k _ H G _ (.dat h (.int _)) q⟩
  · exact q.elim
theorem aiP:CallSem K (fun xs H Q=>∃ p ys,xs=[.ref p]/\(SqL K H p ys\/SqT K H p ys)/\∀ l,H l=none->Q (.ref l) (upd H l (.lst ys))) listR:=by
  intro G so H xs dxs Q R h w q k
  unfold listR at q
  split at q
  · obtain ⟨v,rfl,w1,_⟩:=w.v1
    obtain ⟨a,vs,rfl,g1,a1⟩:=VOk.tup h w1
    exact ⟨a,vs,rfl,.inr g1,fun l n=>k _ _ G _ (.list h n a1) q⟩
  · obtain ⟨v,rfl,w1,_⟩:=w.v1
    split at q
    · rename_i e
      obtain ⟨a,vs,rfl,g1,a1⟩:=VOk.list h w1 e
      exact ⟨a,vs,rfl,.inl (SqL.of g1),fun l n=>k _ _ G _ (.list h n a1) q⟩
    · exact q.elim
  · exact q.elim
theorem ahc {G:Hp}:∀ {vs:List V} {ds:List D} {bs:List Bool},DAll K G vs ds->bools ds=some bs->vs=bs.map V.bl
  | _,_,_,.nil,e=>by cases e;rfl
  | _,_,_,.cons (d:=.bl b) h t,e=>by
    unfold bools at e
    rename_i ds0
    cases z:bools ds0 with
    | none=>rw [z] at e;cases e
    | some ys=>rw [z] at e;cases e;cases h;rw [ahc t z];rfl
  | _,_,_,.cons (d:=.non) h t,e=>by cases e
  | _,_,_,.cons (d:=.int _) h t,e=>by cases e
  | _,_,_,.cons (d:=.str _) h t,e=>by cases e
  | _,_,_,.cons (d:=.lst _) h t,e=>by cases e
  | _,_,_,.cons (d:=.tup _) h t,e=>by cases e
  | _,_,_,.cons (d:=.ins _ _) h t,e=>by cases e
  | _,_,_,.cons (d:=.raw _) h t,e=>by cases e
  | _,_,_,.cons (d:=.kt _) h t,e=>by cases e
theorem aj2:CallSem K (rAll K) allR:=by
  intro G so H xs dxs Q R h w q k
  unfold allR at q
  split at q
  · obtain ⟨v,rfl,w1,_⟩:=w.v1
    split at q
    · rename_i e
      obtain ⟨a,vs,rfl,g1,a1⟩:=VOk.list h w1 e
      split at q
      · rename_i bs eb
        exact ⟨a,bs,rfl,by rw [<- ahc a1 eb];exact SqL.of g1,k _ H G _ (.dat h (.bl _)) q⟩
      · exact q.elim
    · exact q.elim
  · exact q.elim
theorem aj1:CallSem K rGcd gcdR:=by
  intro G so H xs dxs Q R h w q k
  unfold gcdR at q
  split at q
  · obtain ⟨v,v',rfl,w1,w2,_⟩:=w.v2
    cases w1;cases w2
    exact ⟨_,_,rfl,k _ H G _ (.dat h (.int _)) q⟩
  · exact q.elim
def tyD:D->Option String
  | .non=>some "NoneType"
  | .bl _=>some "bool"
  | .int _=>some "int"
  | .str _=>some "str"
  | .lst _=>some "list"
  | .tup _=>some "tuple"
  | .kt _=>some "tuple"
  | _=>none
@[irreducible] def isiR:List DV->(DV->Prop)->Prop
  | [v,.d (.raw (.ty T))],Q=>match v.dat with
    | some d=>match tyD d with
      | some t=>match kitB t T with
        | some b=>Q (.d (.bl b))
        | none=>False
      | none=>False
    | none=>False
  | _,_=>False
theorem anZ {G H:Hp} {so:So} {v:V} {dv:DV} {d:D} {t:String} (h:HRep K G so H) (w:VOk K G so H v dv) (e:dv.dat=some d) (q:tyD d=some t):TyX K H v (.type t):=by
  have own:∀ {a:Addr} {o:OO},OwnOk K G H a o->tyD (pubO o)=some t->TyX K H (.ref a) (.type t):=fun {a o} k q=>by
    cases o with
    | lst ds=>obtain ⟨vs,e1,_⟩:=k;cases q;exact .base (.lst e1)
    | ins x C fs=>cases q
    | dk _=>cases q
    | dt _=>cases q
  cases dv with
  | src=>cases e
  | mu _ _ _=>cases e
  | gh _ _=>cases e
  | own o=>cases e;obtain ⟨a,rfl,_,_,k⟩:=w;exact own k q
  | bor o=>
    cases e;obtain ⟨a,rfl,_,k⟩:=w
    cases o with
    | lst ds=>exact own (o:=.lst ds) k q
    | ins x C fs=>cases q
    | dk _=>cases q
    | dt _=>cases q
  | see o=>cases e;obtain ⟨a,rfl,_,k⟩:=w;exact own k q
  | d x=>
    cases e
    cases w with
    | non=>cases q;exact .base .non
    | bl b=>cases q;exact .base (.bl b)
    | int i=>cases q;exact .base (.int i)
    | str z=>cases q;exact .base (.str z)
    | lst g _=>cases q;exact .base (.lst (h.ex _ _ g))
    | tup g _=>
      cases q
      rcases g with (g | ⟨o,g⟩) | ⟨o,its,n,g,c,_⟩
      · exact .base (.tup (h.ex _ _ g))
      · exact .fTuple (h.ex _ _ g)
      · exact .kTuple g c
    | ins _ _ _=>cases q
    | dk _=>cases q
    | dt _=>cases q
    | any _=>cases q
    | raw _=>cases q
    | kt g=>cases q;exact .base (.tup (h.ex _ _ g))
theorem aeR:CallSem K (rIsi K) isiR:=by
  intro G so H xs dxs Q R h w q k
  unfold isiR at q
  split at q
  · obtain ⟨v,v',rfl,w1,w2,_⟩:=w.v2
    cases w2
    split at q
    · rename_i d e
      split at q
      · rename_i t et
        split at q
        · rename_i b eb
          exact ⟨_,_,_,_,b,rfl,.ty _,anZ h w1 e et,kit_ty eb,k _ H G _ (.dat h (.bl _)) q⟩
        · exact q.elim
      · exact q.elim
    · exact q.elim
  · exact q.elim
def flatD:D->Bool
  | .non=>true
  | .bl _=>true
  | .int _=>true
  | .str _=>true
  | _=>false
def eqF:D->D->Bool
  | .non,.non=>true
  | .bl a,.bl b=>a == b
  | .bl a,.int b=>(if a then 1 else 0) == b
  | .int a,.bl b=>a == (if b then 1 else 0)
  | .int a,.int b=>a == b
  | .str a,.str b=>a == b
  | _,_=>false
def inF (x:D) (ds:List D):Bool:=ds.any fun y=>eqF y x
@[irreducible] def inSeqR (neg:Bool):DV->DV->(DV->Prop)->Prop
  | .d x,.d (.tup ds),Q=>flatD x=true/\ds.all flatD=true/\Q (.d (.bl (if neg then !inF x ds else inF x ds)))
  | .d x,y,Q=>match y.items with
    | some ds=>flatD x=true/\ds.all flatD=true/\Q (.d (.bl (if neg then !inF x ds else inF x ds)))
    | none=>False
  | _,_,_=>False
@[irreducible] def inR (neg:Bool):DV->DV->(DV->Prop)->Prop
  | .d (.str w),.d (.str z),Q=>match w.cps.toList with
    | [c]=>Q (.d (.bl (if neg then !decide (c∈z.cps.toList) else decide (c∈z.cps.toList))))
    | _=>False
  | x,y,Q=>inSeqR neg x y Q
theorem aiw {G:Hp} {v:V} {d:D} (w:DOk K G v d) (f:flatD d=true):flatV v=true:=by
  cases w<;>first | rfl | (exact absurd f (by simp [flatD]))
theorem aoI {G:Hp} {v u:V} {d e:D} (w:DOk K G v d) (w2:DOk K G u e) (f:flatD d=true) (f2:flatD e=true):eqV v u=eqF d e:=by
  cases w<;>cases w2<;>first | rfl | (exfalso;revert f f2;simp [flatD];done)
theorem ag5 {G:Hp}:∀ {vs:List V} {ds:List D},DAll K G vs ds->ds.all flatD=true->vs.all flatV=true
  | _,_,.nil,_=>rfl
  | _,_,.cons h t,f=>by
    rw [List.all_cons,Bool.and_eq_true] at f
    rw [List.all_cons,aiw h f.1,ag5 t f.2];rfl
theorem anz {G:Hp} {v:V} {x:D} (w:DOk K G v x) (f:flatD x=true):∀ {vs:List V} {ds:List D},DAll K G vs ds->ds.all flatD=true->inV v vs=inF x ds
  | _,_,.nil,_=>rfl
  | _,_,.cons h t,g=>by
    rw [List.all_cons,Bool.and_eq_true] at g
    have ih:=anz w f t g.2
    unfold inV inF at ih ⊢
    rw [List.any_cons,List.any_cons,aoI h w g.1 f,ih]
theorem aj0 (neg:Bool):OpSem K (rIn K neg) (inSeqR neg):=by
  intro G so H x y dx dy Q R h wx wy q k
  unfold inSeqR at q
  split at q
  · obtain ⟨a,vs,rfl,g1,a1⟩:=VOk.tup h wy
    exact ⟨a,vs,rfl,.inr g1,aiw wx q.1,ag5 a1 q.2.1,by rw [anz wx q.1 a1 q.2.1];exact k _ H G _ (.dat h (.bl _)) q.2.2⟩
  · split at q
    · rename_i e
      obtain ⟨a,vs,rfl,g1,a1⟩:=VOk.list h wy e
      exact ⟨a,vs,rfl,.inl (SqL.of g1),aiw wx q.1,ag5 a1 q.2.1,by rw [anz wx q.1 a1 q.2.1];exact k _ H G _ (.dat h (.bl _)) q.2.2⟩
    · exact q.elim
  · exact q.elim
def rInAll (K:PySem.W.Frag):R2:=fun x y H Q=>(∃ (c:Nat) (z:Str),x=.str ⟨#[c]⟩/\y=.str z/\Q (.bl (decide (c∈z.cps.toList))) H)\/rIn K false x y H Q
theorem adn:OpR X (compareOp .In) (rInAll X.K):=OpR.or op_in_sign op_in_seq
theorem alI {w:Str} {c:Nat} (e:w.cps.toList=[c]):w=⟨#[c]⟩:=by
  obtain ⟨a⟩:=w
  have:a=#[c]:=by
    apply Array.toList_inj.mp
    exact e
  rw [this]
theorem afE:OpSem K (rInAll K) (inR false):=by
  intro G so H x y dx dy Q R h wx wy q k
  unfold inR at q
  split at q
  · split at q
    · rename_i c e
      cases wx;cases wy
      exact .inl ⟨c,_,by rw [alI e],rfl,k _ H G _ (.dat h (.bl _)) q⟩
    · exact q.elim
  · exact .inr (aj0 false G so H x y dx dy Q R h wx wy q k)
@[irreducible] def ixR:DV->DV->(DV->Prop)->Prop
  | .d (.tup ds),.d (.int i),Q=>match atI ds i with
    | some d=>Q (.d d)
    | none=>False
  | .d (.str z),.d (.int i),Q=>z.length<=szl/\match atI z.cps.toList i with
    | some c=>Q (.d (.str ⟨#[c]⟩))
    | none=>False
  | v,.d (.int i),Q=>match v.items with
    | some ds=>match atI ds i with
      | some d=>Q (.d d)
      | none=>False
    | none=>False
  | _,_,_=>False
theorem amD {G:Hp} {vs:List V} {ds:List D} {i:Int} {d:D} (a:DAll K G vs ds) (e:atI ds i=some d):∃ v,atI vs i=some v/\DOk K G v d:=by
  unfold atI at e ⊢
  rw [a.length]
  cases z:ixN ds.length i with
  | none=>rw [z] at e;cases e
  | some j=>rw [z] at e;exact a.get e
theorem aag:OpSem K (rIx K) ixR:=by
  intro G so H x y dx dy Q R h wx wy q k
  unfold ixR at q
  split at q
  · split at q
    · rename_i e
      obtain ⟨a,vs,rfl,g1,a1⟩:=VOk.tup h wx
      cases wy
      obtain ⟨v,e1,e2⟩:=amD a1 e
      exact .inr (.inl ⟨a,vs,_,v,rfl,rfl,g1,e1,k _ H G _ (.dat h e2) q⟩)
    · exact q.elim
  · cases wx;cases wy
    obtain ⟨q1,q⟩:=q
    split at q
    · rename_i e
      exact .inr (.inr ⟨_,_,_,rfl,rfl,by rw [<- acr];exact q1,e,k _ H G _ (.dat h (.str _)) q⟩)
    · exact q.elim
  · split at q
    · rename_i e
      split at q
      · rename_i e0
        obtain ⟨a,vs,rfl,g1,a1⟩:=VOk.list h wx e
        cases wy
        obtain ⟨v,e1,e2⟩:=amD a1 e0
        exact .inl ⟨a,vs,_,v,rfl,rfl,SqL.of g1,e1,k _ H G _ (.dat h e2) q⟩
      · exact q.elim
    · exact q.elim
  · exact q.elim
end
abbrev TDO:=DSt->(Option Int->DSt->Prop)->XP->Prop
def dNoPart:TDO:=fun sl Q _=>Q none sl
def dPart (te:TD):TDO:=fun sl Q E=>te sl (fun x s1=>match x with
  | .d (.int i)=>Q (some i) s1
  | _=>False) E
def upO (K:PySem.W.Frag) (W:WX) (t:TDO):TO:=fun σ H R=>∃ G so sl Q E,Rep K G so σ H sl/\t sl Q E/\(∀ o H' G' sl',Post K G so σ H sl H' G' sl'->Q o sl'->R o H')/\XOk K W G so σ H sl E
def DO' (X:Cx) (W:WX) (e:Option Expr) (t:TDO):Prop:=PO X e (upO X.K W t)
def cut {α:Type} (xs:List α) (lo hi:Option Int):List α:=(xs.drop (HT.sIx xs.length 0 lo)).take (HT.sIx xs.length xs.length hi - HT.sIx xs.length 0 lo)
@[irreducible] def slR (v:DV) (lo hi:Option Int) (Q:DV->Prop):Prop:=match v with
  | .d (.tup ds)=>Q (.d (.tup (cut ds lo hi)))
  | .d (.str z)=>z.length<=szl/\Q (.d (.str (cutS z lo hi)))
  | v=>match v.items with
    | some ds=>Q (.own (.lst (cut ds lo hi)))
    | none=>False
def dSl (te:TD) (tl th:TDO):TD:=fun sl Q E=>te sl (fun x s1=>tl s1 (fun lo s2=>th s2 (fun hi s3=>slR x lo hi fun z=>Q z s3) E) E) E
section
variable {X:Cx} {W:WX} {e:Expr} {te:TD} {tl th:TDO} {pos p2:Pos} {lo hi:Option Expr} {K:PySem.W.Frag}
theorem amj {o:Option Expr} {t t':TO} (h:PO X o t) (f:∀ σ H R,t' σ H R->t σ H R):PO X o t':=⟨fun pins s σ H Q I q=>h.run pins s σ H Q I (f _ _ _ q)⟩
theorem ade:DO' X W none dNoPart:=amj po_none fun σ H R ⟨G,so,sl,Q,E,rep,q,hq,hx⟩=>hq none H G sl (.refl rep) q
theorem adc (h:DE X W e te):DO' X W (some e) (dPart te):=amj (po_some h) fun σ H R ⟨G,so,sl,Q,E,rep,q,hq,hx⟩=>⟨G,so,sl,_,E,rep,q,fun v H1 G1 dv s1 p q1=>by
    split at q1
    · have w:=p.val
      cases w
      exact ⟨_,rfl,hq _ H1 G1 s1 p.toPost q1⟩
    · exact q1.elim,hx⟩
theorem alg {G:Hp} {vs:List V} {ds:List D} {lo hi:Option Int} (a:DAll K G vs ds):DAll K G (cutV vs lo hi) (cut ds lo hi):=by
  unfold cutV cut
  rw [a.length]
  exact (a.drop _).take _
def rSlAll (K:PySem.W.Frag):V->Option Int->Option Int->Hp->VK->Prop:=fun x lo hi H Q=>rSlA K x lo hi H Q\/(rSlS x lo hi H Q\/rSlL K x lo hi H Q)
theorem an6:SlR X (rSlAll X.K):=SlR.or sl_tupA (SlR.or sl_str sl_list)
theorem alf {α:Type} {xs:List α} {lo hi:Option Int} (h:HT.sIx xs.length 0 lo=0/\HT.sIx xs.length xs.length hi=xs.length):cut xs lo hi=xs:=by
  unfold cut
  rw [h.1,h.2]
  simp
theorem an8 {G:Hp} {so:So} {H:Hp} {x:V} {dx:DV} {lo hi:Option Int} {Q:DV->Prop} {R:VK} (h:HRep K G so H) (w:VOk K G so H x dx) (q:slR dx lo hi Q) (k:∀ v H' G' dv,PostV K G so H v H' G' dv->Q dv->R v H'):rSlAll K x lo hi H R:=by
  unfold slR at q
  split at q
  · obtain ⟨a,vs,rfl,g1,a1⟩:=VOk.tup h w
    refine .inl ⟨a,vs,rfl,g1,fun z=>?_,fun _ p n=>k _ _ _ _ (.tuple h n (alg a1)) q⟩
    rw [a1.length] at z
    rw [alf z] at q
    exact k _ H G _ (.dat h w) q
  · cases w
    exact .inr (.inl ⟨_,rfl,by rw [<- acr];exact q.1,k _ H G _ (.dat h (.str _)) q.2⟩)
  · split at q
    · rename_i e
      obtain ⟨a,vs,rfl,g1,a1⟩:=VOk.list h w e
      exact .inr (.inr ⟨a,vs,rfl,SqL.of g1,fun p n=>k _ _ _ _ (.list h n (alg a1)) q⟩)
    · exact q.elim
theorem agr (he:DE X W e te) (hl:DO' X W lo tl) (hh:DO' X W hi th):DE X W (.Subscript e (.Slice lo hi none p2) pos) (dSl te tl th):=aa3 (pe_slice an6 he hl hh) fun σ H R ⟨G,so,sl,Q,E,rep,q,hq,hx⟩=>by
  refine ⟨G,so,sl,_,E,rep,q,fun x H1 G1 dx s1 p1 q1=>?_,hx⟩
  refine ⟨G1,so,s1,_,E,p1.rep,q1,fun o1 H2 G2 s2 p2 q2=>?_,hx.step p1.toPost⟩
  refine ⟨G2,so,s2,_,E,p2.rep,q2,fun o2 H3 G3 s3 p3 q3=>?_,hx.step (p1.toPost.trans p2)⟩
  have p23:=p2.trans p3
  exact an8 p3.rep.h (p1.over p23) q3 fun v H' G' dv pv hz=>hq v H' G' dv s3 ((p1.toPost.trans p23).thenV pv) hz
end
def strsD:List D->Option (List Str)
  | []=>some []
  | .str s::r=>(strsD r).map (s::·)
  | _=>none
theorem afB {K:PySem.W.Frag} {G:Hp}:∀ {vs:List V} {ds:List D} {ss:List Str},DAll K G vs ds->strsD ds=some ss->vs=ss.map V.str
  | _,_,_,.nil,e=>by cases e;rfl
  | _,_,_,.cons (d:=.str b) h t,e=>by
    unfold strsD at e
    rename_i ds0
    cases z:strsD ds0 with
    | none=>rw [z] at e;cases e
    | some ys=>rw [z] at e;cases e;cases h;rw [afB t z];rfl
  | _,_,_,.cons (d:=.non) h t,e=>by cases e
  | _,_,_,.cons (d:=.int _) h t,e=>by cases e
  | _,_,_,.cons (d:=.bl _) h t,e=>by cases e
  | _,_,_,.cons (d:=.lst _) h t,e=>by cases e
  | _,_,_,.cons (d:=.tup _) h t,e=>by cases e
  | _,_,_,.cons (d:=.ins _ _) h t,e=>by cases e
  | _,_,_,.cons (d:=.raw _) h t,e=>by cases e
  | _,_,_,.cons (d:=.kt _) h t,e=>by cases e
def seqD:DV->Option (List D)
  | .d (.tup ds)=>some ds
  | v=>v.items
@[irreducible] def joinR:DV->DV->(DV->Prop)->Prop
  | .d (.str a),y,Q=>match seqD y with
    | some ds=>match strsD ds with
      | some ss=>(ss.map (·.length)).sum + ss.length * a.length<=16777216/\Q (.d (.str (Txt.join a ss)))
      | none=>False
    | none=>False
  | _,_,_=>False
section
variable {X:Cx} {W:WX} {o e:Expr} {to te:TD} {apos pos:Pos}
theorem anM (ho:DE X W o to) (he:DE X W e te) (hs:starEach [e] X.env=[(false,eval e X.env)]:=by rfl) (hbase:attributeBase o "join" X.env (eval o X.env)=eval o X.env:=by rfl) (hline:(apos.endLine == pos.line)=true:=by rfl) :
    DE X W (.Call (.Attribute o "join" apos) [e] [] pos) (fun sl Q E=>to sl (fun x s1=>(∃ a,x=.d (.str a))/\te s1 (fun y s2=>joinR x y fun z=>Q z s2) E) E):=aa3 (pe_join ho he hs hbase hline) fun σ H R ⟨G,so,sl,Q,E,rep,q,hq,hx⟩=>by
  refine ⟨G,so,sl,_,E,rep,q,fun x H1 G1 dx s1 p1 ⟨⟨a,ea⟩,h1⟩=>⟨?_,?_⟩,hx⟩
  · have w:=p1.val
    rw [ea] at w
    cases w;exact ⟨a,rfl⟩
  · refine ⟨G1,so,s1,_,E,p1.rep,h1,fun y H2 G2 dy s2 p2 h2=>?_,hx.step p1.toPost⟩
    have w1:=p1.over p2.toPost
    have w2:=p2.val
    have fin:=fun (z:Str) (qz:Q (.d (.str z)) s2)=>hq _ H2 G2 _ s2 ((p1.toPost.trans p2.toPost).thenV (.dat p2.rep.h (.str z))) qz
    rw [ea] at w1 h2
    cases w1
    unfold joinR at h2
    change (match seqD dy with | some ds=>(match strsD ds with | some ss=>(ss.map (·.length)).sum + ss.length * a.length<=16777216/\Q (.d (.str (Txt.join a ss))) s2 | none=>False) | none=>False) at h2
    split at h2
    · rename_i ds ed
      split at h2
      · rename_i ss es
        unfold seqD at ed
        split at ed
        · cases ed
          obtain ⟨b,vs,rfl,g1,a1⟩:=VOk.tup p2.rep.h w2
          exact ⟨_,b,ss,rfl,rfl,.inr (by rw [<- afB a1 es];exact g1),h2.1,fin _ h2.2⟩
        · obtain ⟨b,vs,rfl,g1,a1⟩:=VOk.list p2.rep.h w2 ed
          exact ⟨_,b,ss,rfl,rfl,.inl (by rw [<- afB a1 es];exact SqL.of g1),h2.1,fin _ h2.2⟩
      · exact h2.elim
    · exact h2.elim
end
def rReprD (K:PySem.W.Frag):List V->Hp->VK->Prop:=fun xs H Q=>∃ (a:Addr) (d:PyData),xs=[.ref a]/\Dp K H (.ref a) d/\SeqAt.shaped d=true/\d.showable=true/\d.shown.length<=sizeLine/\Q (.str d.shown) H
theorem agG {X:Cx} (hg:X.A.guards=some []) (hu:X.A.units + 65 < cLine):CallR X (.builtin "repr") (rReprD X.K):=by
  intro pins s σ H xs us Q I r h
  obtain ⟨a,d,rfl,hd,hs,hw,hz,q⟩:=h
  obtain ⟨u,rfl,ru⟩:=vals1 r
  cases ru
  obtain ⟨as,rd⟩:=Dp.reads I d _ _ hd (show RelV (.ref a) (.ref a) from rfl)
  have dd:=SeqAt.depth_of_shaped hs
  exact repr_of_reads' rd hw (PyData.noDict_hsm (PyData.hasDict_of_canLay _ (SeqAt.canLay_of_shaped hs))) hg (by omega) (fun _ _ e=>e) (fun h' u tk hk=>⟨.str d.shown,H,I.kept hk,⟨_,rfl⟩,q⟩) hz
@[irreducible] def reprR:List DV->(DV->Prop)->Prop
  | [v],Q=>match v.dat with
    | some (.lst ds)=>match (D.lst ds).py with
      | some p=>SeqAt.shaped p=true/\p.showable=true/\p.shown.length<=szl/\Q (.d (.str p.shown))
      | none=>False
    | some (.tup ds)=>match (D.tup ds).py with
      | some p=>SeqAt.shaped p=true/\p.showable=true/\p.shown.length<=szl/\Q (.d (.str p.shown))
      | none=>False
    | _=>False
  | _,_=>False
theorem amw {K:PySem.W.Frag} {G H:Hp} {so:So} {v:V} {dv:DV} {d:D} (w:VOk K G so H v dv) (e:dv.dat=some d) (h:(∃ ds,d=.lst ds)\/∃ ds,d=.tup ds):∃ a,v=.ref a:=by
  cases dv with
  | src=>cases e
  | mu _ _ _=>cases e
  | gh _ _=>cases e
  | own o=>obtain ⟨a,q,_⟩:=w;exact ⟨a,q⟩
  | bor o=>obtain ⟨a,q,_⟩:=w;exact ⟨a,q⟩
  | see o=>obtain ⟨a,q,_⟩:=w;exact ⟨a,q⟩
  | d x=>
    cases e
    rcases h with ⟨ds,rfl⟩ | ⟨ds,rfl⟩
    · cases w;exact ⟨_,rfl⟩
    · cases w;exact ⟨_,rfl⟩
theorem aiO {K:PySem.W.Frag}:CallSem K (rReprD K) reprR:=by
  intro G so H xs dxs Q R h w q k
  unfold reprR at q
  split at q
  · obtain ⟨v,rfl,w1,_⟩:=w.v1
    split at q
    · rename_i ds e
      split at q
      · rename_i p ep
        obtain ⟨a,rfl⟩:=amw w1 e (.inl ⟨ds,rfl⟩)
        exact ⟨a,p,rfl,w1.dp h e ep,q.1,q.2.1,by rw [<- acr];exact q.2.2.1,k _ H G _ (.dat h (.str _)) q.2.2.2⟩
      · exact q.elim
    · rename_i ds e
      split at q
      · rename_i p ep
        obtain ⟨a,rfl⟩:=amw w1 e (.inr ⟨ds,rfl⟩)
        exact ⟨a,p,rfl,w1.dp h e ep,q.1,q.2.1,by rw [<- acr];exact q.2.2.1,k _ H G _ (.dat h (.str _)) q.2.2.2⟩
      · exact q.elim
    · exact q.elim
  · exact q.elim
structure FnR (P:Program) (w:World) (K:PySem.W.Frag) (mg:Str->Option Value) (base:Heap) (k:Nat) (f:Addr) (fd:FuncData) (ps:List Str) (sp:Sp):Prop where
  len:∀ vs H Q E,sp vs H Q E->vs.length=ps.length
  run:∀ (A:Around) (outer:List Env) (s:Shared) (H:Hp) (args:Args) (us:List Value) (vs:List V) (Q:VK) (E:XK),Room k A->A.guards=some []->Env0 P w K mg base A outer s H->BindsTo s fd args (ps.zip us)->Vals vs us->sp vs H Q E->
    codeAny (model P w) A (.call (.ref f) args) (CR (L2N.CX P w) outer P w H s Q E) s
theorem akY {P:Program} {w:World} {K:PySem.W.Frag} {mg:Str->Option Value} {base:Heap} {x qual:Str} {params:Arguments} {body:List Stmt} {scope:Scope} {dvs:List V} {kws:List (Str × V)} {f:Addr} {fd:FuncData} {N ps:List Str} {k:Nat} {sp:Sp}
    (F:FunD K x qual params body scope dvs kws f fd) (S:FnScope N ps scope) (len:∀ vs H Q E,sp vs H Q E->vs.length=ps.length)
    (hd:∀ (cdv:Value) (A:Around) (outer:List Env) (s:Shared) (H:Hp) (vs:List V) (Q:VK) (E:XK),Room k (A.deeper (envOfC qual scope s.heap.objs.size f cdv))->(cxOf (L2N.CX P w) P w K mg base N qual scope f cdv A outer s H E).A.guards=some []->sp vs H Q E->
      ∃ t,PSs (cxOf (L2N.CX P w) P w K mg base N qual scope f cdv A outer s H E) body t/\t { nx:=fun _ H'=>Q .non H',rt:=Q } (L2.start N vs) H):FnR P w K mg base (k + 1) f fd ps sp:=by
  obtain ⟨oc,od,dV,kV,doc,pm,an,cdv,ct,osl,rfl,lk,hcd,_,_⟩:=F.ex
  refine ⟨len,fun A outer s H args us vs Q E hroom hg e0 hb r hsp=>?_⟩
  have KX:K.In s.heap:=e0.mod.kin.keeps fun b o e=>(e0.bs b o e).1
  have lim:s.heap.NoLimit:=e0.mod.nolimit.keeps fun b o e=>(e0.bs b o e).1
  have hkind:((ps.zip us).all fun y=>scope.names.lookup y.1 == some .local || scope.names.lookup y.1 == some .cell)=true:=by
    rw [List.all_eq_true]
    rintro ⟨n,u⟩ hy
    rcases S.par n (List.of_mem_zip hy).1 with z | z
    · show (scope.names.lookup n == some .local || _)=true
      rw [z];rfl
    · show (scope.names.lookup n == some .local || scope.names.lookup n == some .cell)=true
      rw [z];rfl
  refine Att.call_fn KX lim lk hcd hroom.depth hb hkind (fun s1 x=>?_) S.co S.gen S.kind
  have I:=inv_start (CX:=L2N.CX P w) (E:=E) S hroom.hd e0 (len _ _ _ _ hsp) r x
  obtain ⟨t,pt,qt⟩:=hd cdv A outer s H vs Q E (hroom.deeper _) hg hsp
  refine wpAny_mono (pt.run [] s1 (L2.start N vs) H _ I qt) (fun fl s' hs=>?_) fun e s' hs=>hs
  cases fl with
  | ret u=>
    obtain ⟨v,σ',H',J,rv,z⟩:=hs
    exact ⟨v,H',J.os,J.bare,J.base,J.hok,rv,z⟩
  | next=>
    obtain ⟨σ',H',J,z⟩:=hs
    exact ⟨.non,H',J.os,J.bare,J.base,J.hok,rfl,z⟩
  | brk=>obtain ⟨_,_,_,z⟩:=hs;exact False.elim z
  | cont=>obtain ⟨_,_,_,z⟩:=hs;exact False.elim z
theorem FnR.g {P:Program} {w:World} {K:PySem.W.Frag} {mg:Str->Option Value} {base:Heap} {k:Nat} {f:Addr} {fd:FuncData} {ps:List Str} {sp:SpD} (F:FnR P w K mg base k f fd ps (upSp K sp)) (len:∀ args Q E,sp args Q E->args.length=ps.length):FnG P w K mg base k f fd ps sp:=⟨len,F.run⟩
theorem alF {X:Cx} {k:Nat} {f:Addr} {fd:FuncData} {ps:List Str} {sp:Sp} {x:Str} {p pos:Pos} {e:Expr} {es:List Expr} {t:TA} (F:FnR X.prog X.w X.K X.mg X.base k f fd ps sp) (hr:Room k X.A) (hgd:X.A.guards=some []) (hg:Gl X x) (hm:X.mg x=some (.ref f)) (hk:PySem.W.keepIn X.K (.ref f)=true) (hb:Binds X.K fd ps [])
    (ha:PA X (e::es) t) (hdb:(x == ("__debug__":Str))=false:=by decide) (he:starEach (e::es) X.env=(false,eval e X.env)::starEach es X.env:=by rfl) (hpl:(backTo pos (starEach es X.env)).any (·.1)=false:=by rfl) :
    PE X (.Call (.Name x p) (e::es) [] pos) (fun σ H Q=>t σ H fun vs H1=>sp vs H1 Q E0):=by
  refine ⟨fun pins s σ H Q I h=>wpAny_Call_Name_kw (ld_glob I hg hm ?_ hdb)⟩
  refine PySem.W.callWith_K (h₀:=X.base) I.ok.mod.kin hk (thn (ha.run pos pins s σ H _ I h) fun us s1 ⟨vs,H1,I1,r,q⟩=>⟨I1.kIn,?_⟩) he hpl
  have hl:(us++[]).length=ps.length:=by rw [List.append_nil,<- r.length];exact F.len _ _ _ _ q
  have hb2:=hb s1 us I1.kIn hl
  rw [List.append_nil] at hb2
  refine wpAny_call (codeAny_mono (F.run X.A X.stack s1 H1 ⟨us,[]⟩ us vs Q E0 hr hgd I1.env0 hb2 r q) fun r s' hq=>?_)
  cases r with
  | error e=>
    obtain ⟨_,_,_,_,_,_,_,_,_,_,_,_,z⟩:=hq
    exact False.elim z
  | ok fl=>
    cases fl with
    | ret u=>exact I1.after hq
    | next=>exact False.elim hq
    | brk=>exact False.elim hq
    | cont=>exact False.elim hq
section
variable {P:Program} {w:World} {K:PySem.W.Frag} {mg mb:Str->Option Value}
def anA (K:PySem.W.Frag) (tb:List Addr) (a:Addr) (o:Obj) (xs:List V):Hp:=fun b=>if b∈tb then some (.tbl #[]) else if b=a/\K.lookup a=none then some (.frz o (.lst xs)) else none
theorem heap0_cases {tb:List Addr} {a b:Addr} {o:Obj} {xs:List V} {u:HO} (h:anA K tb a o xs b=some u):(b∈tb/\u=.tbl #[])\/(b∉tb/\b=a/\K.lookup a=none/\u=.frz o (.lst xs)):=by
  unfold anA at h
  by_cases q:b∈tb
  · rw [if_pos q] at h;cases h;exact .inl ⟨q,rfl⟩
  · rw [if_neg q] at h
    by_cases z:b=a/\K.lookup a=none
    · rw [if_pos z] at h;cases h;exact .inr ⟨q,z.1,z.2,rfl⟩
    · rw [if_neg z] at h;cases h
theorem akF {k:Nat} {fa a:Addr} {cs:List (Addr × Addr)} {fd:FuncData} {x:Str} {sp:Sp} {s1:Shared} {vs:List Value} {ns:List Int}
    (KX:K.In s1.heap) (hns:s1.heap.Ns mainGlobals mg) (hb:s1.heap.Ns builtinsNs mb) (hbb:∀ x:Str,x≠"__name__"->mb x=bootBuiltins x) (hlim:s1.heap.NoLimit) (hg:s1.gens=#[])
    (tE:∀ q∈cs,s1.heap.get? q.2=some { cls:=.none,data:=.fields #[] }) (tN:∀ q∈cs,K.lookup q.2=none) (tC:∀ q∈cs,PySem.W.CodeHd s1.heap q.1 q.2)
    (bmn:∃ (bm:Addr) (ob:Obj),mg "__builtins__"=some (.ref bm)/\bm≠builtinsNs/\s1.heap.get? bm=some ob/\ob.cls=.type "module"/\ob.dict=some builtinsNs/\ob.data=.plain)
    (ha:s1.heap.get? a=some { cls:=.type "list",data:=.seq vs.toArray }) (hi:IntsAre vs ns) (hl:ns.length<=sizeLine) (hr:Room k callerA)
    (F:∀ base:Heap,K.In base->base.Ns mainGlobals mg->(∀ q∈cs,LamX.TabB base mg q.1 q.2)->FnR P w K mg base k fa fd [x] sp) (hbind:∀ (s:Shared) (u:Value),BindsTo s fd ⟨[u],[]⟩ [(x,u)])
    (hsp:∀ H:Hp,(∀ q∈cs,H q.2=some (.tbl #[]))->SqL K H a (ns.map V.int)->sp [.ref a] H (fun v _=>v=.bl true) fun _ _ _=>False) :
    codeAny (model P w) callerA (.call (.ref fa) ⟨[.ref a],[]⟩) (fun r s'=>r=.ok (.ret (.bool true))/\OldK s1.heap s'.heap/\s'.os=s1.os/\AllBare s'.gens) s1:=by
  have rv:=vals_ints hi
  let O:Obj:={ cls:=.type "list",data:=.seq vs.toArray }
  let H:=anA K (cs.map Prod.snd) a O (ns.map V.int)
  have tb:∀ b∈cs.map Prod.snd,s1.heap.get? b=some { cls:=.none,data:=.fields #[] }:=fun b hm=>by
    obtain ⟨q,hq,rfl⟩:=List.mem_map.mp hm
    exact tE q hq
  have na:a∉cs.map Prod.snd:=fun z=>by
    have y:=ha.symm.trans (tb a z)
    cases y
  have inT:∀ b∈cs.map Prod.snd,H b=some (.tbl #[]):=fun b hm=>if_pos hm
  have hok:HOk P w H s1.heap:=fun b u e=>by
    rcases heap0_cases e with ⟨hm,rfl⟩ | ⟨_,rfl,_,rfl⟩
    · exact tb b hm
    · exact ⟨ha,by rw [List.length_map];exact hl,vs,_,rv,ha⟩
  have hS:SqL K H a (ns.map V.int):=by
    cases hk:K.lookup a with
    | none=>exact .inl (.inr ⟨O,(if_neg na).trans (if_pos ⟨rfl,hk⟩)⟩)
    | some o=>
      have e:=KX a o hk
      rw [ha] at e;cases e
      refine .inr ⟨_,vs.toArray,_,hk,rfl,rfl,rfl,?_,by simpa using rv⟩
      rw [List.size_toArray,hi.length];exact hl
  have free:∀ {b:Addr} {o:Obj},s1.heap.get? b=some o->(∀ xs n,o.data≠.seq xs n)->o.data≠.fields #[]->H b=none:=fun {b o} e n1 n2=>by
    cases q:H b with
    | none=>rfl
    | some u=>
      rcases heap0_cases q with ⟨hm,_⟩ | ⟨_,rfl,_,_⟩
      · have y:=(tb b hm).symm.trans e
        cases y;exact absurd rfl n2
      · have y:=ha.symm.trans e
        cases y;exact absurd rfl (n1 _ _)
  have lay:∀ {b:Addr} {o:Obj},s1.heap.get? b=some o->H b=none->(hidT s1.heap H).get? b=some o:=fun e n=>hidT_get e n
  have plain:∀ {b:Addr} {m:Str->Option Value},s1.heap.Ns b m->(hidT s1.heap H).Ns b m:=fun {b m} ⟨o,es,ep,e,d,r⟩=>
    ⟨o,es,ep,lay e (free e (fun xs n z=>by rw [d] at z;cases z) fun z=>by rw [d] at z;cases z),d,r⟩
  have hKb:K.In (hidT s1.heap H):=fun b o e=>lay (KX b o e) (by
    cases q:H b with
    | none=>rfl
    | some u=>
      rcases heap0_cases q with ⟨hm,_⟩ | ⟨_,rfl,z,_⟩
      · obtain ⟨y,hy,rfl⟩:=List.mem_map.mp hm
        rw [tN y hy] at e;cases e
      · rw [z] at e;cases e)
  have TB:∀ q∈cs,LamX.TabB (hidT s1.heap H) mg q.1 q.2:=fun q hq=>by
    refine ⟨?_,?_,fun z=>?_⟩
    · obtain ⟨o,us,f1,f2,f3,f4,f5,f6,f7,e1,r1,r2,r3,rest⟩:=tC q hq
      refine ⟨o,us,f1,f2,f3,f4,f5,f6,f7,lay e1 (free e1 (fun xs n z=>?_) fun z=>?_),r1,r2,r3,rest⟩
      · rw [r2] at z;cases z
      · rw [r2] at z;cases z;simp at r3
    · obtain ⟨bm,ob,b1,b2,b3,b4,b5,b6⟩:=bmn
      refine ⟨bm,ob,b1,b2,fun z=>?_,fun z=>?_,lay b3 (free b3 (fun xs n z=>?_) fun z=>?_),b4,b5,b6⟩
      · obtain ⟨o,es,ep,e,hd,_⟩:=hns
        subst z
        have y:=e.symm.trans b3
        cases y
        rw [hd] at b6;cases b6
      · subst z
        have y:=(tE q hq).symm.trans b3
        cases y
        cases b6
      · rw [b6] at z;cases z
      · rw [b6] at z;cases z
    · obtain ⟨o,es,ep,e,hd,_⟩:=hns
      rw [z] at e
      have y:=(tE q hq).symm.trans e
      cases y
      cases hd
  have e0:Env0 P w K mg (hidT s1.heap H) callerA [] s1 H:=by
    refine ⟨rfl,⟨hKb,plain hns,⟨mb,plain hb,hbb⟩,?_⟩,fun b o e=>of_hidT e,Nat.le_of_eq (hidT_size _ _),trivial,fun b z=>absurd (show b∈([]:List Addr) from z) (by simp),hok,.of_eq hg⟩
    obtain ⟨mc,h1,h2⟩:=hlim
    exact ⟨mc,plain h1,h2⟩
  refine codeAny_mono ((F _ hKb (plain hns) TB).run callerA [] s1 H ⟨[.ref a],[]⟩ [.ref a] [.ref a] _ _ hr rfl e0 (hbind s1 (.ref a)) (.cons rfl .nil) (hsp H (fun q hq=>inT _ (List.mem_map.mpr ⟨q,hq,rfl⟩)) hS)) fun r s' h=>?_
  cases r with
  | error e=>
    obtain ⟨_,_,_,_,_,_,_,_,_,_,_,_,z⟩:=h
    exact z.elim
  | ok fl=>
    cases fl with
    | next=>exact False.elim h
    | brk=>exact False.elim h
    | cont=>exact False.elim h
    | ret u=>
      obtain ⟨v,H',os,bare,un,hok',r',q⟩:=h
      obtain rfl:v=.bl true:=q
      obtain rfl:u=Value.bool true:=r'
      have stay:∀ b o,b∉cs.map Prod.snd->s1.heap.get? b=some o->s'.heap.get? b=some o:=fun b o nb e=>by
        cases q:H b with
        | none=>exact un.keep b o e q (fun y=>absurd (show b∈([]:List Addr) from y) (by simp)) (by simp)
        | some u=>
          rcases heap0_cases q with ⟨hm,_⟩ | ⟨_,_,_,rfl⟩
          · exact absurd hm nb
          · obtain ⟨e1,_⟩:=hok b _ q
            obtain ⟨e2,_⟩:=hok' b _ (un.frzs b O _ q)
            rw [e] at e1;cases e1
            exact e2
      have grown:∀ q∈cs,∃ more:Array Value,s'.heap.get? q.2=some { cls:=.none,data:=.fields more }:=fun q hq=>by
        obtain ⟨more,z⟩:=un.tbls q.2 #[] (inT _ (List.mem_map.mpr ⟨q,hq,rfl⟩))
        exact ⟨_,hok' q.2 _ z⟩
      refine ⟨rfl,⟨fun b o e=>?_,fun b o e=>?_⟩,os,bare⟩
      · by_cases hm:b∈cs.map Prod.snd
        · obtain ⟨q,hq,rfl⟩:=List.mem_map.mp hm
          obtain ⟨more,hmo⟩:=grown q hq
          have y:=(tE q hq).symm.trans e
          cases y
          exact .inr (.inl ⟨((tC q hq).tab (tE q hq)).isCodeTable,rfl,#[],more,rfl,by rw [Array.empty_append];exact hmo⟩)
        · exact .inl (stay b o hm e)
      · by_cases hm:b∈cs.map Prod.snd
        · obtain ⟨q,hq,rfl⟩:=List.mem_map.mp hm
          obtain ⟨more,hmo⟩:=grown q hq
          exact ⟨_,hmo⟩
        · exact ⟨o,stay b o hm e⟩
end
def spSource (K:PySem.W.Frag):Sp:=fun vs H Q _=>∃ (a:Addr) (ns:List Int),vs=[.ref a]/\SqL K H a (ns.map V.int)/\ns.length<=63/\
  ∀ (H':Hp) (p c:Addr) (ms:List Int) (sd:Int),Ex H H'->c≠p->H' p=some (.lst [.ref c,.int 0,.int 0,.int sd,.int 0])->H' c=some (.lst (ms.map V.int))->ms.length<=63->0<=sd->sd < 4294967296->Q (.ref p) H'
def spDraw:SpD:=fun args Q _=>∃ m:Int,args=[.src,.d (.int m)]/\0 < m/\m < 2 ^ 64/\∀ n:Int,0<=n->n < m->Q (.d (.int n))
def spOf:SpD:=fun args Q _=>∃ x:DV,args=[.src,x]/\(∀ o,x≠.see o)/\match x with
  | .d (.str z)=>0 < z.length/\z.length<=szl/\∀ c∈z.cps.toList,Q (.d (.str ⟨#[c]⟩))
  | .d (.tup ds)=>0 < ds.length/\ds.length<=szl/\∀ d∈ds,Q (.d d)
  | x=>match x.items with
    | some ds=>0 < ds.length/\ds.length<=szl/\∀ d∈ds,Q (.d d)
    | none=>False
structure Shows (d:D) (p:PyData):Prop where
  py:d.py=some p
  seq:(∃ ds,d=.lst ds)\/∃ ds,d=.tup ds
  sh:SeqAt.shaped p=true
  sw:p.showable=true
  ln:p.shown.length<=szl
def spSame:SpD:=fun args Q _=>∃ (d e:D) (p q:PyData),args=[.d d,.d e]/\Shows d p/\Shows e q/\Q (.d (.bl (decide (p.shown=q.shown))))
theorem aj4 {Q:DV->Prop} {E:XE'} {d:D} {p:PyData} (h:Shows d p) (q:Q (.d (.bl true))):spSame [.d d,.d d] Q E:=⟨d,d,p,p,rfl,h,h,by rw [decide_eq_true rfl];exact q⟩
theorem ame {k:Nat} {A:Around} (hr:Room k A):A.units + 65 < cLine:=by have:=hr.un;omega
theorem aka {d:D} {p:PyData} {Q:DV->Prop} (s:Shows d p) (q:Q (.d (.str p.shown))):reprR [.d d] Q:=by
  unfold reprR
  rcases s.seq with ⟨ds,rfl⟩ | ⟨ds,rfl⟩
  · show (match (D.lst ds).py with | some p=>SeqAt.shaped p=true/\p.showable=true/\p.shown.length<=szl/\Q (.d (.str p.shown)) | none=>False)
    rw [s.py]
    exact ⟨s.sh,s.sw,s.ln,q⟩
  · show (match (D.tup ds).py with | some p=>SeqAt.shaped p=true/\p.showable=true/\p.shown.length<=szl/\Q (.d (.str p.shown)) | none=>False)
    rw [s.py]
    exact ⟨s.sh,s.sw,s.ln,q⟩
def LamUq (K:PySem.W.Frag):Prop:=∀ q∈lamFns K,∀ q'∈lamFns K,q.2.1=q'.2.1->q.2.2=q'.2.2
def spLaw (K:PySem.W.Frag):Sp:=fun vs H Q _=>∃ (a:Addr) (ns:List Int),vs=[.ref a]/\SqL K H a (ns.map V.int)/\ns.length<=63/\(∀ q∈lamFns K,H q.2.1=some (.tbl #[]))/\LamUq K/\∀ H',Q (.bl true) H'
abbrev lawEnds:EndsD:={ nx:=fun _=>False,rt:=fun v _=>v=.d (.bl true),bk:=fun _=>False,ct:=fun _=>False,xc:=fun _ _ _=>False }
theorem aor {K:PySem.W.Frag} {W:WX} {t:TDS} {D:Ends} {σ:L2.St} {H:Hp} {p c:Addr} {ms:List Int} {sd:Int} (n i:Nat) (hl:σ.length=n) (hi:σ[i]?=some (some (.ref p))) (hD:∀ H',D.rt (.bl true) H')
    (cp:c≠p) (hp:H p=some (.lst [.ref c,.int 0,.int 0,.int sd,.int 0])) (hc:H c=some (.lst (ms.map V.int))) (hm:ms.length<=63) (h0:0<=sd) (h1:sd < 4294967296) (ht:∀ q∈lamFns K,H q.2.1=some (.tbl #[])) (hu:LamUq K)
    (h:t lawEnds ((List.replicate n none).set i (some .src))):upS K W t D σ H:=by
  have gP:tpUp (fun b=>if b=c then H c else none) H p=none:=by
    unfold tpUp;rw [hp];exact if_neg (Ne.symm cp)
  have gC:tpUp (fun b=>if b=c then H c else none) H c=some (.lst (ms.map V.int)):=by
    unfold tpUp;rw [hc];simp
  refine ⟨tpUp (fun b=>if b=c then H c else none) H,(p,.src c)::(lamFns K).map fun q=>(q.2.1,.tab q.2.2),_,lawEnds,?_,h,⟨fun _ _ _ _ _ z=>z.elim,fun _ _ _ _ _ z=>z.elim,fun _ _ _ _ _ z=>z.elim,fun v H' G' dv _ pr z=>?_,fun _ _ _ _ _ _ _ _ _ z=>z.elim⟩⟩
  · have sl:∀ (j:Nat) (dv:DV),((List.replicate n none).set i (some DV.src))[j]?=some (some dv)->j=i/\dv=.src:=fun j dv e=>by
      rcases get_set e with ⟨z,e2⟩ | ⟨ne,e2⟩
      · exact ⟨z,Option.some.inj e2⟩
      · rw [List.getElem?_replicate] at e2
        split at e2<;>cases e2
    refine ⟨⟨fun b o e=>?_,fun b k e=>?_,⟨fun q hq=>List.mem_cons_of_mem _ (List.mem_map.mpr ⟨q,hq,rfl⟩),fun b k k' e e'=>?_⟩,fun b xs q=>by unfold tpUp;rw [q]⟩,by simp [hl],fun j dv e=>?_,fun j k o o' b e1 _ _ _=>?_,fun j o b e1 _ _=>?_,fun j o e=>?_⟩
    · unfold tpUp at e
      split at e
      · rename_i xs z;cases e;exact z
      · replace e:(if b=c then H c else none)=some o:=e
        by_cases q:b=c
        · subst q;rw [if_pos rfl] at e;exact e
        · rw [if_neg q] at e;cases e
    · rcases List.mem_cons.mp e with e | e
      · cases e
        exact ⟨gP,ms,0,0,sd,0,hp,SqL.of gC,hm,by omega,by omega,h0,h1⟩
      · obtain ⟨q,hq,e⟩:=List.mem_map.mp e
        cases e
        have hne:q.2.1≠c:=fun z=>by
          have y:=ht q hq
          rw [z,hc] at y;cases y
        exact ⟨by unfold tpUp;rw [ht q hq];exact if_neg hne,#[],ht q hq,True.intro,fun pos cv hcv=>(by have z:codeAmong pos []=some cv:=hcv;simp [codeAmong] at z)⟩
    · have np:∀ q∈lamFns K,q.2.1≠p:=fun q hq z=>by
        have y:=ht q hq
        rw [z,hp] at y;cases y
      rcases List.mem_cons.mp e with e | e<;>rcases List.mem_cons.mp e' with e' | e'
      · cases e;cases e';rfl
      · obtain ⟨q,hq,e'⟩:=List.mem_map.mp e'
        cases e;cases e'
        exact absurd rfl (np q hq)
      · obtain ⟨q,hq,e⟩:=List.mem_map.mp e
        cases e;cases e'
        exact absurd rfl (np q hq)
      · obtain ⟨q,hq,e⟩:=List.mem_map.mp e
        obtain ⟨q',hq',e'⟩:=List.mem_map.mp e'
        cases e
        injection e' with e1 e2
        rw [<- e2,hu q hq q' hq' e1.symm]
    · obtain ⟨rfl,rfl⟩:=sl j dv e
      exact ⟨_,hi,p,⟨c,List.mem_cons_self ..⟩,rfl⟩
    · exact (nomatch (sl j _ e1).2)
    · exact (nomatch (sl j _ e1).2)
    · exact (nomatch (sl j _ e).2)
  · have w:=pr.val
    rw [z] at w
    cases w
    exact hD H'
theorem adW {g:TDG} {tb:TDS} {E:EndsD} (I:DSt->Prop):∀ (ds:List D) (sl:DSt),I sl->(∀ (N:DSt->Prop) (d:D) (s:DSt),(∀ s',I s'->N s')->d∈ds->I s->g d s fun s1=>tb { nx:=N,ct:=N,bk:=E.nx,rt:=E.rt,xc:=E.xc } s1)->(∀ s,I s->E.nx s)->dForL g tb E ds sl
  | [],sl,h,_,fin=>by rw [aeF];exact fin sl h
  | d::r,sl,h,step,fin=>by
    rw [adN]
    exact step _ d sl (fun s' i=>adW I r s' i (fun N e s k m=>step N e s k (List.mem_cons_of_mem _ m)) fin) (List.mem_cons_self ..) h
theorem adX {g:TDG} {tb:TDS} {E:EndsD} (I:List D->DSt->Prop) (step:∀ (N:DSt->Prop) (d:D) (r:List D) (s:DSt),(∀ s',I r s'->N s')->I (d::r) s->g d s fun s1=>tb { nx:=N,ct:=N,bk:=E.nx,rt:=E.rt,xc:=E.xc } s1) (fin:∀ s,I [] s->E.nx s):∀ (ds:List D) (sl:DSt),I ds sl->dForL g tb E ds sl
  | [],sl,h=>by rw [aeF];exact fin sl h
  | d::r,sl,h=>by
    rw [adN]
    exact step _ d r sl (fun s' i=>adX I step fin r s' i) h
def GlobD (K:PySem.W.Frag) (mg:Str->Option Value) (x:Str) (d:D):Prop:=∃ v u,mg x=some u/\RelV v u/\∀ G,DOk K G v d
theorem adZ {X:Cx} {W:WX} {x:Str} {d:D} {pos:Pos} (hg:Gl X x) (h:GlobD X.K X.mg x d) (hdb:(x == ("__debug__":Str))=false:=by decide):DE X W (.Name x pos) (dC d):=by
  obtain ⟨v,u,h1,h2,h3⟩:=h
  exact de_c (pe_glob hg h1 h2 hdb) h3
theorem ab2 {K:PySem.W.Frag} {x qual:Str} {params:Arguments} {body:List Stmt} {scope:Scope} {kws:List (Str × V)} {f:Addr} {fd:FuncData} {ps ks:List Str} {n:Nat} {sel:List Sel} (F:FunD K x qual params body scope [] kws f fd) (g:List Value->List Value->List Value)
    (h:∀ (kV doc pm:Value) (an:Option Addr) (cdv ct:Value) (us ws:List Value),us.length=n->ws.length=ks.length->bindArgs (PySem.W.fnOf x qual params body scope .none kV doc pm an cdv ct) ⟨us,ks.zip ws⟩=pure (ps.zip (g us ws)))
    (hv:∀ (vs qs:List V) (us ws:List Value),us.length=n->ws.length=ks.length->Vals vs us->Vals qs ws->Vals (sel.map (pickV vs qs)) (g us ws)) (hs:∀ s∈sel,∀ (v:V) (d:D),s=.dfl v d->∀ G,DOk K G v d):Bd K fd ps n ks sel:=by
  obtain ⟨oc,od,dV,kV,doc,pm,an,cdv,ct,osl,rfl,lk,hcd,hD,hK⟩:=F.ex
  rcases hD with ⟨_,rfl⟩ | ⟨e,_⟩
  · exact ⟨fun s us ws vs qs _ l1 l2 r1 r2=>⟨g us ws,.of_eq (h kV doc pm an cdv ct us ws l1 l2),hv vs qs us ws l1 l2 r1 r2⟩,hs⟩
  · exact absurd rfl e
theorem amA {K:PySem.W.Frag} {x qual:Str} {params:Arguments} {body:List Stmt} {scope:Scope} {dvs:List V} {kws:List (Str × V)} {f:Addr} {fd:FuncData} {ps ks:List Str} {n:Nat} {sel:List Sel} (F:FunD K x qual params body scope dvs kws f fd) (hd:dvs≠[]) (g:List Value->List Value->List Value->List Value)
    (h:∀ (T:Addr) (kV doc pm:Value) (an:Option Addr) (cdv ct:Value) (us ws its:List Value),us.length=n->ws.length=ks.length->its.length=dvs.length->∃ k,bindArgs (PySem.W.fnOf x qual params body scope (.ref T) kV doc pm an cdv ct) ⟨us,ks.zip ws⟩=seqItems? (.ref T) >>= k/\k (some its.toArray)=pure (ps.zip (g us ws its)))
    (hv:∀ (vs qs:List V) (us ws its:List Value),us.length=n->ws.length=ks.length->Vals vs us->Vals qs ws->Vals dvs its->Vals (sel.map (pickV vs qs)) (g us ws its)) (hs:∀ s∈sel,∀ (v:V) (d:D),s=.dfl v d->∀ G,DOk K G v d):Bd K fd ps n ks sel:=by
  obtain ⟨oc,od,dV,kV,doc,pm,an,cdv,ct,osl,rfl,lk,hcd,hD,hK⟩:=F.ex
  rcases hD with ⟨e,_⟩ | ⟨_,T,o,its,m,rfl,lT,oT,rT⟩
  · exact absurd e hd
  · refine ⟨fun s us ws vs qs X l1 l2 r1 r2=>⟨g us ws its,BindsTo.of_looks fun M=>?_,hv vs qs us ws its l1 l2 r1 r2 rT⟩,hs⟩
    obtain ⟨k,e1,e2⟩:=h T kV doc pm an cdv ct us ws its l1 l2 rT.length.symm
    rw [e1]
    exact looks_items X lT oT (.of_pure e2)
theorem aoB {x:DV} {d:D} {t T:String} {b:Bool} {Q:DV->Prop} (hx:x.dat=some d) (ht:tyD d=some t) (hk:kitB t T=some b) (q:Q (.d (.bl b))):isiR [x,.d (.raw (.ty T))] Q:=by
  unfold isiR
  show (match x.dat with | some d=>(match tyD d with | some t=>(match kitB t T with | some b=>Q (.d (.bl b)) | none=>False) | none=>False) | none=>False)
  rw [hx]
  show (match tyD d with | some t=>(match kitB t T with | some b=>Q (.d (.bl b)) | none=>False) | none=>False)
  rw [ht]
  show (match kitB t T with | some b=>Q (.d (.bl b)) | none=>False)
  rw [hk]
  exact q
section
variable {Q:DV->Prop} {i j:Int} {a b z:Str} {ds es:List D} {d e:D} {v w:DV}
theorem aeD (q:Q (.d (.int (i + j)))):addR (.d (.int i)) (.d (.int j)) Q:=by unfold addR;exact q
theorem amp (h:a.length + b.length<=szl) (q:Q (.d (.str (a++b)))):addR (.d (.str a)) (.d (.str b)) Q:=by unfold addR;exact ⟨h,q⟩
theorem amq (hv:v.items=some ds) (hw:w.items=some es) (h:ds.length + es.length<=szl) (q:Q (.own (.lst (ds++es)))):addR v w Q:=by
  unfold addR
  split
  · cases hv
  · cases hv
  · cases hv
  · rw [hv,hw];exact ⟨h,q⟩
theorem acO {f:Int->Int->D} (q:Q (.d (f i j))):akT f (.d (.int i)) (.d (.int j)) Q:=by unfold akT;exact q
theorem agE {C:Int->Int->Prop} {f:Int->Int->D} (h:C i j) (q:Q (.d (f i j))):intR C f (.d (.int i)) (.d (.int j)) Q:=by unfold intR;exact ⟨h,q⟩
theorem l_neg (q:Q (.d (.int (-i)))):negR (.d (.int i)) Q:=by unfold negR;exact q
theorem acC {n:Bool} (q:Q (.d (.bl (if n then !decide (i=j) else decide (i=j))))):eqR n (.d (.int i)) (.d (.int j)) Q:=by unfold eqR;exact q
theorem l_eqS {n:Bool} (q:Q (.d (.bl (if n then !decide (a=b) else decide (a=b))))):eqR n (.d (.str a)) (.d (.str b)) Q:=by unfold eqR;exact q
theorem l_eqD {n:Bool} {p p':PyData} (hv:v.dat=some d) (hw:w.dat=some e) (h1:d.py=some p) (h2:e.py=some p') (s1:SeqAt.shaped p=true) (s2:SeqAt.shaped p'=true) (hn:(∃ x,p=.list x)\/(∃ x,p=.tuple x)\/p=.none) (q:Q (.d (.bl (if n then !PyData.eqv p p' else PyData.eqv p p')))):eqR n v w Q:=by
  unfold eqR
  split
  · cases hv;cases h1;rcases hn with ⟨x,z⟩ | ⟨x,z⟩ | z<;>cases z
  · cases hv;cases h1;rcases hn with ⟨x,z⟩ | ⟨x,z⟩ | z<;>cases z
  · cases hv;cases h1;rcases hn with ⟨x,z⟩ | ⟨x,z⟩ | z<;>cases z
  · unfold eqDeep
    rw [hv,hw]
    dsimp only
    rw [h1,h2]
    exact ⟨s1,s2,q⟩
theorem abb {P:Bool->Prop} {x:Bool} (q:P x):truR (.d (.bl x)) P:=by unfold truR;exact q
theorem adh {xs:List DV} (h:dats xs=some ds) (hl:Nat.ble ds.length szl=true) (q:Q (.d (.tup ds))):tupR xs Q:=by
  unfold tupR;rw [h];exact ⟨Nat.le_of_ble_eq_true hl,q⟩
theorem afS {xs:List DV} (h:dats xs=some ds) (hl:Nat.ble ds.length szl=true) (q:Q (.own (.lst ds))):lstR xs Q:=by
  unfold lstR;rw [h];exact ⟨Nat.le_of_ble_eq_true hl,q⟩
theorem akL {P:List D->Prop} (q:P ds):iterR (.d (.tup ds)) P:=by unfold iterR;exact q
theorem ank {P:List D->Prop} (q:P (signs z)):iterR (.d (.str z)) P:=by unfold iterR;exact q
theorem abm {P:List D->Prop} (q:P ds):iterR (.d (.lst ds)) P:=by unfold iterR;exact q
theorem ac2 {P:List D->Prop} (h1:-(2 ^ 62)<=j) (h2:j < 2 ^ 62) (q:P (intsFrom 0 j.toNat)):alC [.d (.int j)] P:=by unfold alC;exact ⟨h1,h2,q⟩
theorem akK (h:z.length<=szl) (q:Q (.d (.int z.length))):lenR [.d (.str z)] Q:=by unfold lenR;exact ⟨h,q⟩
theorem akJ (q:Q (.d (.int ds.length))):lenR [.d (.tup ds)] Q:=by unfold lenR;exact q
theorem abk (hv:v.items=some ds) (q:Q (.d (.int ds.length))):lenR [v] Q:=by
  unfold lenR
  split
  · rename_i h;cases h;cases hv
  · rename_i h;cases h;cases hv
  · rename_i h;cases h;rw [hv];exact q
  · rename_i h;exact absurd rfl (h v)
theorem l_int (q:Q (.d (.int i))):intC [.d (.int i)] Q:=by unfold intC;exact q
theorem l_abs (q:Q (.d (.int (if i < 0 then -i else i)))):absR [.d (.int i)] Q:=by unfold absR;exact q
theorem akI (hv:v.items=some ds) (q:Q (.own (.lst ds))):listR [v] Q:=by
  unfold listR
  split
  · rename_i h;cases h;cases hv
  · rename_i h;cases h;rw [hv];exact q
  · rename_i h;exact absurd rfl (h v)
theorem aox {bs:List Bool} (hv:v.items=some ds) (hb:bools ds=some bs) (q:Q (.d (.bl (bs.all id)))):allR [v] Q:=by
  unfold allR
  dsimp only
  rw [hv]
  dsimp only
  rw [hb]
  exact q
theorem aow (q:Q (.d (.int (Int.gcd i j)))):gcdR [.d (.int i),.d (.int j)] Q:=by unfold gcdR;exact q
theorem l_inC {n:Bool} {c:Nat} (h:a.cps.toList=[c]) (q:Q (.d (.bl (if n then !decide (c∈z.cps.toList) else decide (c∈z.cps.toList))))):inR n (.d (.str a)) (.d (.str z)) Q:=by
  unfold inR
  dsimp only
  rw [h]
  exact q
theorem anl {n:Bool} (h1:flatD d=true) (h2:ds.all flatD=true) (q:Q (.d (.bl (if n then !inF d ds else inF d ds)))):inR n (.d d) (.d (.tup ds)) Q:=by
  unfold inR
  split
  · rename_i h;cases h
  · unfold inSeqR;exact ⟨h1,h2,q⟩
theorem items_cases (h:v.items=some ds):v=.d (.lst ds)\/v=.own (.lst ds)\/v=.bor (.lst ds)\/v=.see (.lst ds):=by
  unfold DV.items at h
  split at h<;>first | (cases h;done) | (injection h with h;subst h;simp)
theorem anm {n:Bool} (hv:v.items=some ds) (h1:flatD d=true) (h2:ds.all flatD=true) (q:Q (.d (.bl (if n then !inF d ds else inF d ds)))):inR n (.d d) v Q:=by
  rcases items_cases hv with e | e | e | e<;>subst e<;>(unfold inR;unfold inSeqR;cases d<;>exact ⟨h1,h2,q⟩)
theorem abl (h:atI ds i=some d) (q:Q (.d d)):ixR (.d (.tup ds)) (.d (.int i)) Q:=by
  unfold ixR
  dsimp only
  rw [h];exact q
theorem l_ixS {c:Nat} (hz:z.length<=szl) (h:atI z.cps.toList i=some c) (q:Q (.d (.str ⟨#[c]⟩))):ixR (.d (.str z)) (.d (.int i)) Q:=by
  unfold ixR
  refine ⟨hz,?_⟩
  rw [h];exact q
theorem acB (hv:v.items=some ds) (h:atI ds i=some d) (q:Q (.d d)):ixR v (.d (.int i)) Q:=by
  rcases items_cases hv with e | e | e | e<;>subst e<;>(unfold ixR;dsimp only [DV.items];rw [h];exact q)
theorem aos {lo hi:Option Int} (q:Q (.d (.tup (cut ds lo hi)))):slR (.d (.tup ds)) lo hi Q:=by unfold slR;exact q
theorem aot {lo hi:Option Int} (hz:z.length<=szl) (q:Q (.d (.str (cutS z lo hi)))):slR (.d (.str z)) lo hi Q:=by unfold slR;exact ⟨hz,q⟩
theorem ajC {lo hi:Option Int} (hv:v.items=some ds) (q:Q (.own (.lst (cut ds lo hi)))):slR v lo hi Q:=by
  unfold slR
  split
  · cases hv
  · cases hv
  · rw [hv];exact q
theorem aou {ss:List Str} (hv:seqD v=some ds) (hs:strsD ds=some ss) (h:(ss.map (·.length)).sum + ss.length * a.length<=16777216) (q:Q (.d (.str (Txt.join a ss)))):joinR (.d (.str a)) v Q:=by
  unfold joinR
  dsimp only
  rw [hv]
  dsimp only
  rw [hs]
  exact ⟨h,q⟩
end
section
variable {g:TDG} {tt:TDT} {te:TD} {vs:List Nat} {Q:DV->DSt->Prop}
theorem akD (p:D->Bool) (f:D->D) (S:DSt):∀ (ds acc:List D),acc.length + ds.length<=szl->
    (∀ d∈ds,∀ (M:D->DSt->Prop) (A:DSt->Prop),(p d=true->M (f d) S)->(p d=false->A S)->g d S fun s1=>tt s1 (fun b s2=>Br b (te s2 (fun x s3=>match pubV x with
      | .d y=>M y (wipeD s3 vs)
      | _=>False) fun _ _ _=>False) (A (wipeD s2 vs))) fun _ _ _=>False)->
    Q (.own (.lst (acc++(ds.filter p).map f))) S->dLcL g tt te vs Q ds acc S
  | [],acc,_,_,q=>by rw [lcL_nil];rw [List.filter_nil,List.map_nil,List.append_nil] at q;exact q
  | d::r,acc,hl,step,q=>by
    rw [adV]
    have hl2:acc.length + (r.length + 1)<=szl:=hl
    refine step d (List.mem_cons_self ..) (fun y s=>acc.length < szl/\dLcL g tt te vs Q r (acc++[y]) s) (fun s=>dLcL g tt te vs Q r acc s) (fun e=>⟨by omega,?_⟩) (fun e=>?_)
    · refine akD p f S r _ (by rw [List.length_append,List.length_singleton];omega) (fun d' h=>step d' (List.mem_cons_of_mem _ h)) ?_
      rw [List.filter_cons_of_pos e,List.map_cons] at q
      rw [List.append_assoc,List.singleton_append];exact q
    · refine akD p f S r _ (by omega) (fun d' h=>step d' (List.mem_cons_of_mem _ h)) ?_
      rw [List.filter_cons_of_neg (by simp [e])] at q
      exact q
theorem adb (f:D->D) (S:DSt) {ds:List D} (hl:ds.length<=szl)
    (step:∀ d∈ds,∀ (M:D->DSt->Prop) (A:DSt->Prop),M (f d) S->g d S fun s1=>tt s1 (fun b s2=>Br b (te s2 (fun x s3=>match pubV x with
      | .d y=>M y (wipeD s3 vs)
      | _=>False) fun _ _ _=>False) (A (wipeD s2 vs))) fun _ _ _=>False) (q:Q (.own (.lst (ds.map f))) S):dLcL g tt te vs Q ds [] S:=
  akD (fun _=>true) f S ds [] (by simpa using hl) (fun d h M A m _=>step d h M A (m rfl)) (by rw [List.filter_eq_self.mpr (fun _ _=>rfl)];exact q)
theorem anb (R:D->Prop) (S:DSt) {ds0:List D} (hl:ds0.length<=szl)
    (step:∀ d∈ds0,∀ (M:D->DSt->Prop) (A:DSt->Prop),(∀ y,R y->M y S)->g d S fun s1=>tt s1 (fun b s2=>Br b (te s2 (fun x s3=>match pubV x with
      | .d y=>M y (wipeD s3 vs)
      | _=>False) fun _ _ _=>False) (A (wipeD s2 vs))) fun _ _ _=>False) (q:∀ xs:List D,xs.length=ds0.length->(∀ x∈xs,R x)->Q (.own (.lst xs)) S):dLcL g tt te vs Q ds0 [] S:=by
  have go:∀ (ds acc:List D),acc.length + ds.length=ds0.length->(∀ d∈ds,d∈ds0)->(∀ x∈acc,R x)->dLcL g tt te vs Q ds acc S:=by
    intro ds
    induction ds with
    | nil=>intro acc h1 _ h3;rw [lcL_nil];exact q acc (by simpa using h1) h3
    | cons d r ih=>
      intro acc h1 h2 h3
      rw [List.length_cons] at h1
      rw [adV]
      refine step d (h2 d (List.mem_cons_self ..)) (fun y s=>acc.length < szl/\dLcL g tt te vs Q r (acc++[y]) s) (fun s=>dLcL g tt te vs Q r acc s) (fun y hy=>⟨by omega,?_⟩)
      refine ih (acc++[y]) (by rw [List.length_append,List.length_singleton];omega) (fun d' h=>h2 d' (List.mem_cons_of_mem _ h)) (fun x hx=>?_)
      rcases List.mem_append.mp hx with h | h
      · exact h3 x h
      · rw [List.mem_singleton.mp h];exact hy
  exact go ds0 [] (by simp) (fun _ h=>h) (fun _ h=>(nomatch h))
end
theorem afY {α:Type} (f:α->Bool) (xs:List α):bools (xs.map fun x=>D.bl (f x))=some (xs.map f):=by
  induction xs with
  | nil=>rfl
  | cons x r ih=>show (bools (r.map fun x=>D.bl (f x))).map (f x::·)=_;rw [ih];rfl
theorem ahn (z:Str):(signs z).length=z.length:=by simp [signs,Str.length]
theorem ahT {z:Str} {d:D} (h:d∈signs z):∃ c∈z.cps.toList,d=.str ⟨#[c]⟩:=by
  obtain ⟨c,h1,h2⟩:=List.mem_map.mp h
  exact ⟨c,h1,h2.symm⟩
theorem up_ss {X:Cx} (W:WX) {sts:List Stmt} {t:TDS} (h:DSs X W sts t):PSs X sts (upS X.K W t):=h
theorem ad1 {K:PySem.W.Frag} {x qual:Str} {params:Arguments} {body:List Stmt} {scope:Scope} {kws:List (Str × V)} {f:Addr} {fd:FuncData} {ps:List Str} (F:FunD K x qual params body scope [] kws f fd)
    (h:∀ (kV doc pm:Value) (an:Option Addr) (cdv ct:Value) (us:List Value),us.length=ps.length->bindArgs (PySem.W.fnOf x qual params body scope .none kV doc pm an cdv ct) ⟨us,[]⟩=pure (ps.zip us)):Binds K fd ps []:=by
  obtain ⟨oc,od,dV,kV,doc,pm,an,cdv,ct,osl,rfl,lk,hcd,hD,hK⟩:=F.ex
  rcases hD with ⟨_,rfl⟩ | ⟨e,_⟩
  · exact Binds.all fun us hl=>h kV doc pm an cdv ct us hl
  · exact absurd rfl e
theorem alj {K:PySem.W.Frag} {x qual p:Str} {params:Arguments} {body:List Stmt} {scope:Scope} {kws:List (Str × V)} {f:Addr} {fd:FuncData} (F:FunD K x qual params body scope [] kws f fd)
    (h:∀ (kV doc pm:Value) (an:Option Addr) (cdv ct:Value) (u:Value),bindArgs (PySem.W.fnOf x qual params body scope .none kV doc pm an cdv ct) ⟨[u],[]⟩=pure [(p,u)]) (s:Shared) (u:Value):BindsTo s fd ⟨[u],[]⟩ [(p,u)]:=by
  obtain ⟨oc,od,dV,kV,doc,pm,an,cdv,ct,osl,rfl,lk,hcd,hD,hK⟩:=F.ex
  rcases hD with ⟨_,rfl⟩ | ⟨e,_⟩
  · exact .of_eq (h kV doc pm an cdv ct u)
  · exact absurd rfl e
abbrev sgS (c:Nat):Str:=⟨#[c]⟩
abbrev sgD (c:Nat):D:=.str (sgS c)
abbrev wd (cs:List Nat):Str:=⟨cs.toArray⟩
theorem agz (cs:List Nat):(wd cs).length=cs.length:=by simp [Str.length]
theorem amJ (cs:List Nat):strsD (cs.map sgD)=some (cs.map sgS):=by
  induction cs with
  | nil=>rfl
  | cons c r ih=>show (strsD (r.map sgD)).map (sgS c::·)=_;rw [ih];rfl
theorem ai6:∀ cs:List Nat,TL.joinL [] (cs.map fun c=>[c])=cs
  | []=>rfl
  | [_]=>rfl
  | c::e::r=>by
    show [c]++([]++TL.joinL [] ((e::r).map fun c=>[c]))=_
    rw [ai6 (e::r)];rfl
theorem anv (cs:List Nat):Txt.join "" (cs.map sgS)=wd cs:=by
  refine TL.ext_tl ?_
  rw [TL.join_eq,TL.tl_join,List.map_map]
  exact ai6 cs
theorem an1 (cs:List Nat):((cs.map sgS).map (·.length)).sum=cs.length:=by
  induction cs with
  | nil=>rfl
  | cons c r ih=>rw [List.map_cons,List.map_cons,List.sum_cons,ih,List.length_cons];show 1 + _=_;omega
theorem anj {v:DV} {cs:List Nat} {Q:DV->Prop} (hv:seqD v=some (cs.map sgD)) (hl:cs.length<=szl) (q:Q (.d (.str (wd cs)))):joinR (.d (.str "")) v Q:=by
  refine aou hv (amJ cs) ?_ (by rw [anv];exact q)
  rw [an1,List.length_map]
  show cs.length + cs.length * 0<=_
  have:szl=16777216:=rfl
  omega
section
variable {t u:TDS} {te:TD} {E:EndsD} {sl:DSt} {i:Nat}
theorem aa1 (P:DSt->Prop) (h:∀ N:DSt->Prop,(∀ s,P s->N s)->t { E with nx:=N } sl) (q:∀ s,P s->u E s):dSeq t u E sl:=h _ q
theorem aeQ (x:D) (h:∀ Q:DV->DSt->Prop,Q (.d x) sl->te sl Q E.xc) (q:u E (sl.set i (some (.d x)))):dSeq (dSet te i) u E sl:=h _ q
theorem aev (ds:List D) (h:∀ Q:DV->DSt->Prop,Q (.own (.lst ds)) sl->te sl Q E.xc) (q:u E (sl.set i (some (.own (.lst ds))))):dSeq (dSet te i) u E sl:=h _ q
theorem acV (R:D->Prop) (h:∀ Q:DV->DSt->Prop,(∀ x,R x->Q (.d x) sl)->te sl Q E.xc) (q:∀ x,R x->u E (sl.set i (some (.d x)))):dSeq (dSet te i) u E sl:=h _ q
end
theorem afA (L:Nat):∀ (ts:List Str) (k:Nat) (acc:Str),(∀ t∈ts,t.length<=L)->(PySem.textFrom k acc ts).length<=acc.length + ts.length * (L + 2)
  | [],k,acc,_=>by show acc.length<=_;omega
  | t::r,k,acc,h=>by
    have h1:=afA L r (k + 1) (acc++(if k > 0 then ", " else "":String)++t) fun y hy=>h y (List.mem_cons_of_mem _ hy)
    have h2:=h t (List.mem_cons_self ..)
    have e:(acc++(if k > 0 then ", " else "":String)++t).length=acc.length + (if k > 0 then 2 else 0) + t.length:=by
      rw [strLen_append,strLen_append]
      split<;>rfl
    rw [e] at h1
    show (PySem.textFrom (k + 1) (acc++(if k > 0 then ", " else "":String)++t) r).length<=_
    rw [List.length_cons,Nat.add_mul]
    have h3:(if k > 0 then 2 else 0)<=2:=by split<;>omega
    omega
theorem akP (L:Nat):∀ ts:List Str,(∀ t∈ts,t.length<=L)->(Str.join ", " ts).length<=ts.length * (L + 2)
  | [],_=>by show 0<=_;omega
  | [x],h=>by have:=h x (List.mem_cons_self ..);show x.length<=1 * (L + 2);omega
  | x::y::r,h=>by
    have h1:=akP L (y::r) fun t ht=>h t (List.mem_cons_of_mem _ ht)
    have h2:=h x (List.mem_cons_self ..)
    show (x++", "++Str.join ", " (y::r)).length<=(r.length + 1 + 1) * (L + 2)
    rw [strLen_append,strLen_append]
    have e2:((", ":String):Str).length=2:=rfl
    rw [List.length_cons] at h1
    rw [Nat.add_mul (r.length + 1)]
    omega
structure Shw (n L:Nat) (d:D) (p:PyData):Prop where
  py:d.py=some p
  lay:p.canLay0=true
  dp:p.depth<=n
  sw:p.showable=true
  ln:p.shown.length<=L
inductive ShwAll (n L:Nat):List D->List PyData->Prop where
  | nil:ShwAll n L [] []
  | cons {d:D} {p:PyData} {ds:List D} {ps:List PyData} (h:Shw n L d p) (t:ShwAll n L ds ps):ShwAll n L (d::ds) (p::ps)
namespace Shw
variable {n m L M:Nat} {d:D} {p:PyData}
theorem mono (h:Shw n L d p) (h1:n<=m) (h2:L<=M):Shw m M d p:=⟨h.py,h.lay,Nat.le_trans h.dp h1,h.sw,Nat.le_trans h.ln h2⟩
theorem non:Shw 0 4 .non .none:=⟨rfl,by simp [PyData.canLay0],by simp [PyData.depth],by simp [PyData.showable],by simp [PyData.shown];decide⟩
theorem bl (b:Bool):Shw 0 5 (.bl b) (.bool b):=⟨rfl,by simp [PyData.canLay0],by simp [PyData.depth],by simp [PyData.showable],by cases b<;>simp [PyData.shown]<;>decide⟩
theorem str {z:Str} (h:∀ c∈z.cps.toList,c < 0x110000) (hl:z.length<=m):Shw 0 (10 * m + 2) (.str z) (.str z):=by
  refine ⟨rfl,?_,by simp [PyData.depth],by simp [PyData.showable],?_⟩
  · simp only [PyData.canLay0,PyData.strOk]
    rw [Array.all_eq_true']
    intro c hc
    exact decide_eq_true (h c (Array.mem_def.mp hc))
  · have:=PySem.StrLaws.reprText_len z fun c hc=>Nat.lt_trans (h c hc) (by decide)
    simp only [PyData.shown]
    omega
theorem int {i:Int} {k:Nat} (hk:0 < k) (h2:k<=500) (h0:0<=i) (h:i < 10 ^ k):Shw 0 k (.int i) (.int i):=by
  refine ⟨rfl,by simp [PyData.canLay0],by simp [PyData.depth],?_,?_⟩
  · simp only [PyData.showable]
    refine decide_eq_true ?_
    rcases Nat.eq_zero_or_pos i.natAbs with z | z
    · rw [z];decide
    refine (Nat.log2_lt (by omega)).mpr ?_
    have h3:i.natAbs < 10 ^ k:=by
      have:((i.natAbs:Nat):Int) < ((10 ^ k:Nat):Int):=by rw [Int.natAbs_of_nonneg h0];simpa using h
      exact Int.ofNat_lt.mp this
    refine Nat.lt_of_lt_of_le h3 (Nat.le_trans (Nat.pow_le_pow_right (by decide) h2) ?_)
    decide +kernel
  · simp only [PyData.shown]
    exact toString_length_le h0 hk h
theorem all:∀ {ds:List D} {ps:List PyData},ShwAll n L ds ps->D.pyAll ds=some ps/\PyData.canLayAll0 ps=true/\PyData.depthAll ps<=n/\PyData.showableAll ps=true/\(∀ t∈PyData.shownAll ps,t.length<=L)/\(PyData.shownAll ps).length=ds.length
  | _,_,.nil=>⟨by simp [D.pyAll],by simp [PyData.canLayAll0],by simp [PyData.depthAll],by simp [PyData.showableAll],by simp [PyData.shownAll],by simp [PyData.shownAll]⟩
  | _,_,.cons (d:=d) (p:=p) (ds:=ds) (ps:=ps) h t=>by
    obtain ⟨h1,h2,h3,h4,h5,h6⟩:=all t
    refine ⟨?_,?_,?_,?_,?_,?_⟩
    · unfold D.pyAll;rw [h.py,h1]
    · unfold PyData.canLayAll0;rw [h.lay,h2];rfl
    · unfold PyData.depthAll;exact Nat.max_le.mpr ⟨h.dp,h3⟩
    · unfold PyData.showableAll;rw [h.sw,h4];rfl
    · unfold PyData.shownAll
      intro t ht
      rcases List.mem_cons.mp ht with z | z
      · rw [z];exact h.ln
      · exact h5 t z
    · unfold PyData.shownAll;rw [List.length_cons,List.length_cons,h6]
theorem lst {ds:List D} {ps:List PyData} (h:ShwAll n L ds ps) (hl:ds.length<=m):Shw (n + 1) (m * (L + 2) + 2) (.lst ds) (.list ps):=by
  obtain ⟨h1,h2,h3,h4,h5,h6⟩:=all h
  refine ⟨by unfold D.py;rw [h1];rfl,by unfold PyData.canLay0;exact h2,by unfold PyData.depth;omega,by unfold PyData.showable;exact h4,?_⟩
  unfold PyData.shown listText
  rw [strLen_append]
  have:=afA L (PyData.shownAll ps) 0 "[" h5
  have e1:(("[":String):Str).length=1:=rfl
  have e2:(("]":String):Str).length=1:=rfl
  rw [h6] at this
  have:=Nat.mul_le_mul_right (L + 2) hl
  omega
theorem tup {ds:List D} {ps:List PyData} (h:ShwAll n L ds ps) (hl:ds.length<=m):Shw (n + 1) (m * (L + 2) + 3) (.tup ds) (.tuple ps):=by
  obtain ⟨h1,h2,h3,h4,h5,h6⟩:=all h
  refine ⟨by unfold D.py;rw [h1];rfl,by unfold PyData.canLay0;exact h2,by unfold PyData.depth;omega,by unfold PyData.showable;exact h4,?_⟩
  unfold PyData.shown tupleText
  rw [strLen_append,strLen_append]
  have e1:(("(":String):Str).length=1:=rfl
  have e2:((if (PyData.shownAll ps).length == 1 then ",)" else ")":String):Str).length<=2:=by split<;>decide
  have e3:(Str.join ", " (PyData.shownAll ps)).length<=m * (L + 2):=by
    have j:=akP L (PyData.shownAll ps) h5
    rw [h6] at j
    exact Nat.le_trans j (Nat.mul_le_mul_right _ hl)
  omega
end Shw
theorem Shw.shows {n L:Nat} {d:D} {p:PyData} (h:Shw n L d p) (hs:(∃ ds,d=.lst ds)\/∃ ds,d=.tup ds) (h1:n<=64) (h2:L<=szl):Shows d p:=⟨h.py,hs,by simp [SeqAt.shaped,h.lay,Nat.le_trans h.dp h1],h.sw,Nat.le_trans h.ln h2⟩
end DL
namespace DL
open PySem PySem.Spec PyProof.Rows L2
mutual
def datB (K:PySem.W.Frag):D->Value->Bool
  | .non,u=>(match u with | .none=>true | _=>false)
  | .bl b,u=>(match u with | .bool c=>b == c | _=>false)
  | .int i,u=>(match u with | .int j _=>decide (i=j) | _=>false)
  | .str x,u=>(match u with | .str y _=>decide (x=y) | _=>false)
  | .tup ds,u=>(match u with
    | .ref a=>(match K.lookup a with
      | some ⟨.type c,_,.seq its _,_⟩=>decide (c="tuple") && (decide (its.size<=sizeLine) && datsB K ds its.toList)
      | _=>false)
    | _=>false)
  | _,_=>false
def datsB (K:PySem.W.Frag):List D->List Value->Bool
  | [],us=>us.isEmpty
  | d::ds,us=>(match us with
    | u::r=>datB K d u && datsB K ds r
    | []=>false)
end
mutual
theorem aiC {K:PySem.W.Frag}:∀ (d:D) (u:Value),datB K d u=true->∃ v,RelV v u/\∀ G,DOk K G v d
  | .non,u,h=>by
    unfold datB at h
    split at h
    · exact ⟨.non,rfl,fun _=>.non⟩
    · cases h
  | .bl b,u,h=>by
    unfold datB at h
    split at h
    · have e:=eq_of_beq h
      exact ⟨.bl b,by rw [e];rfl,fun _=>.bl b⟩
    · cases h
  | .int i,u,h=>by
    unfold datB at h
    split at h
    · rename_i t
      exact ⟨.int i,⟨t,by rw [of_decide_eq_true h]⟩,fun _=>.int i⟩
    · cases h
  | .str x,u,h=>by
    unfold datB at h
    split at h
    · rename_i t
      exact ⟨.str x,⟨t,by rw [of_decide_eq_true h]⟩,fun _=>.str x⟩
    · cases h
  | .tup ds,u,h=>by
    unfold datB at h
    split at h
    · rename_i a
      split at h
      · rename_i c od its n sl q
        obtain ⟨h1,h2⟩:=He.ba h
        obtain ⟨h3,h4⟩:=He.ba h2
        obtain ⟨vs,r,w⟩:=ajj ds its.toList h4
        exact ⟨.ref a,rfl,fun G=>.tup (.inr ⟨_,its,n,q,congrArg Value.type (of_decide_eq_true h1),rfl,of_decide_eq_true h3,r⟩) (w G)⟩
      · cases h
    · cases h
  | .lst _,_,h=>by unfold datB at h;cases h
  | .ins _ _,_,h=>by unfold datB at h;cases h
  | .dk _,_,h=>by unfold datB at h;cases h
  | .dt _,_,h=>by unfold datB at h;cases h
  | .any,_,h=>by unfold datB at h;cases h
  | .raw _,_,h=>by unfold datB at h;cases h
  | .kt _,_,h=>by unfold datB at h;cases h
theorem ajj {K:PySem.W.Frag}:∀ (ds:List D) (us:List Value),datsB K ds us=true->∃ vs,Vals vs us/\∀ G,DAll K G vs ds
  | [],us,h=>by
    unfold datsB at h
    rw [List.isEmpty_iff] at h
    subst h
    exact ⟨[],.nil,fun _=>.nil⟩
  | d::ds,us,h=>by
    unfold datsB at h
    split at h
    · rename_i u r
      obtain ⟨h1,h2⟩:=He.ba h
      obtain ⟨v,r1,w1⟩:=aiC d u h1
      obtain ⟨vs,r2,w2⟩:=ajj ds r h2
      exact ⟨v::vs,.cons r1 r2,fun G=>.cons (w1 G) (w2 G)⟩
    · cases h
end
def gloB (K:PySem.W.Frag) (q:Str × D):Bool:=match PySem.W.nsIn K mainGlobals q.1 with
  | some (some u)=>datB K q.2 u
  | _=>false
theorem anB {K:PySem.W.Frag} {h:Heap} {mg:Str->Option Value} (X:K.In h) (G:h.Ns mainGlobals mg) {x:Str} {d:D} (c:gloB K (x,d)=true):GlobD K mg x d:=by
  unfold gloB at c
  split at c
  · rename_i u e
    obtain ⟨v,r,w⟩:=aiC d u c
    exact ⟨v,u,PySem.W.mg_of X G e,r,w⟩
  · cases c
def bltB (K:PySem.W.Frag) (q:Str × String):Bool:=He.eqO (PySem.W.nsIn K mainGlobals q.1) (some (some (.builtin q.2)))
abbrev AlX:Type:=Bool × He.AlD
structure LX where
  cs:List (Str × D)
  bs:List (Str × String)
  xs:List (PySem.W.Frag->Bool)
def lamOk (g:Addr->Option Obj) (K:PySem.W.Frag):Bool:=(lamFns K).all fun q=>PySem.W.codeHdIn K q.1 q.2.1 && ((match g q.2.1 with
  | some o=>He.emptyTab o
  | none=>false) && (lamFns K).all fun q'=>q.2.1 != q'.2.1 || q.2.2 == q'.2.2)
def LX.ok (l:LX) (g:Addr->Option Obj) (K:PySem.W.Frag):Bool:=(l.cs.all (gloB K) && (l.bs.all (bltB K) && l.xs.all fun x=>x K)) && lamOk g K
def valX (fn:List He.DefD):AlX:=(true,He.valD fn)
structure SaysX (l:LX) (fa:List He.Fa) (fn:List He.DefD) (h:Heap) (K:PySem.W.Frag):Prop where
  c:(l.cs.all (gloB K) && (l.bs.all (bltB K) && l.xs.all fun x=>x K))=true
  s:He.SaysD fa fn K
  tc:∀ q∈lamFns K,PySem.W.codeHdIn K q.1 q.2.1=true
  tn:∀ q∈lamFns K,K.lookup q.2.1=none
  te:∀ q∈lamFns K,h.get? q.2.1=some { cls:=.none,data:=.fields #[] }
  tu:LamUq K
section
variable {l:LX} {fa:List He.Fa} {fn:List He.DefD} {h h0:Heap} {K:PySem.W.Frag} {mg:Str->Option Value}
theorem SaysX.glob (S:SaysX l fa fn h0 K) (X:K.In h) (G:h.Ns mainGlobals mg) (i:Nat) {x:Str} {d:D} (e:l.cs[i]?=some (x,d):=by rfl):GlobD K mg x d:=
  anB X G (List.all_eq_true.mp (He.ba S.c).1 _ (List.mem_of_getElem? e))
theorem SaysX.blt (S:SaysX l fa fn h0 K) (X:K.In h) (G:h.Ns mainGlobals mg) (i:Nat) {x:Str} {b:String} (e:l.bs[i]?=some (x,b):=by rfl):mg x=some (.builtin b):=
  PySem.W.mg_of X G (He.eqO_ok (List.all_eq_true.mp (He.ba (He.ba S.c).2).1 _ (List.mem_of_getElem? e)))
end
theorem anc {K:PySem.W.Frag} {x qual:Str} {params:Arguments} {body:List Stmt} {scope:Scope} {dvs:List V} {kws:List (Str × V)} {f:Addr} {fd:FuncData} (F:FunD K x qual params body scope dvs kws f fd) (h:lamNames.contains qual=true):∃ c,fd.code=.ref c/\(c,He.tabOf K c,qual++".<locals>."++"<lambda>")∈lamFns K:=by
  obtain ⟨oc,od,dV,kV,doc,pm,an,cdv,ct,osl,rfl,lk,hcd,_,_⟩:=F.ex
  obtain ⟨c,rfl⟩:=He.codeIn_ref hcd
  refine ⟨c,rfl,List.mem_filterMap.mpr ⟨_,He.lookup_mem lk,?_⟩⟩
  show (if lamNames.contains qual=true then some (c,He.tabOf K c,qual++".<locals>."++"<lambda>") else none)=_
  rw [if_pos h]
theorem alo {l:PySem.W.OpenLaw} {n k:Nat} {q:Program} {loose:List Str} {XP:(Str->Option Value)->Heap->Prop} {YP:World->Heap->Prop} {d:DefRec} {x:Str}
    (hn:l.most=some n) (hn2:n<=sizeLine) (hdf:d.params.defaults=[]) (hr:Room k callerA)
    (F:∀ (w:World) (mg:Str->Option Value) (fa:Addr) (h:Heap),YP w h->h.Ns mainGlobals mg->mg d.name=some (.ref fa)->
      ∃ (K:PySem.W.Frag) (fd:FuncData) (sp:Sp),K.In h/\(∀ (s:Shared) (u:Value),BindsTo s fd ⟨[u],[]⟩ [(x,u)])/\
        (∀ q∈lamFns K,h.get? q.2.1=some { cls:=.none,data:=.fields #[] })/\(∀ q∈lamFns K,K.lookup q.2.1=none)/\(∀ q∈lamFns K,PySem.W.codeHdIn K q.1 q.2.1=true)/\
        (∀ (H:Hp) (a:Addr) (ns:List Int),ns.length<=n->(∀ q∈lamFns K,H q.2.1=some (.tbl #[]))->SqL K H a (ns.map V.int)->sp [.ref a] H (fun v _=>v=.bl true) fun _ _ _=>False)/\
        ∀ base:Heap,K.In base->base.Ns mainGlobals mg->(∀ q∈lamFns K,LamX.TabB base mg q.1 q.2.1)->FnR l.prog w K mg base k fa fd [x] sp) :
    PySem.W.WalkO q loose XP YP l.row.toRowW d [] (fun f vs=>PySem.call f vs):=by
  refine Att.attach_call hn hdf fun w s0 s1 mg mb fa o pm cd doc a vs ns G Y ho hd hcd hmg hobj hints hlen hg=>?_
  obtain ⟨K,fd,sp,KX,hb,t1,t2,t3,hsp,hF⟩:=F w mg fa _ Y G.T.g hmg
  have im:∀ {p:Addr × Addr},p∈(lamFns K).map (fun q=>(q.1,q.2.1))->∃ q∈lamFns K,p=(q.1,q.2.1):=fun h=>by
    obtain ⟨q,hq,e⟩:=List.mem_map.mp h
    exact ⟨q,hq,e.symm⟩
  have mi:∀ q∈lamFns K,(q.1,q.2.1)∈(lamFns K).map (fun q=>(q.1,q.2.1)):=fun q hq=>List.mem_map.mpr ⟨q,hq,rfl⟩
  refine akF (cs:=(lamFns K).map fun q=>(q.1,q.2.1)) KX G.T.g G.T.b G.T.builtins G.T.nolimit hg (fun p hp=>?_) (fun p hp=>?_) (fun p hp=>?_) G.T.bmain hobj hints (Nat.le_trans hlen hn2) hr (fun base h1 h2 h3=>hF base h1 h2 fun q hq=>h3 _ (mi q hq)) hb fun H hT hS=>hsp H a ns hlen (fun q hq=>hT _ (mi q hq)) hS
  · obtain ⟨q,hq,rfl⟩:=im hp;exact t1 q hq
  · obtain ⟨q,hq,rfl⟩:=im hp;exact t2 q hq
  · obtain ⟨q,hq,rfl⟩:=im hp;exact PySem.W.codeHd_of_K KX (t3 q hq)
section
variable {K:PySem.W.Frag} {G H:Hp} {so:So} {σ:L2.St} {sl:DSt} {i:Nat} {o o':OO} {a:Addr} {u:HO}
theorem alH {K:PySem.W.Frag} {G H:Hp} {a:Addr} {xs:List V} {o:OO} (w:OwnOk K G (upd H a (.tup xs)) a o):False:=by
  cases o with
  | lst ds=>obtain ⟨vs,e,_⟩:=w;rw [upd_same] at e;cases e
  | ins x C fs=>obtain ⟨_,dx,vs,e,_⟩:=w;rw [upd_same] at e;cases e
  | dk kvs=>obtain ⟨vs,e,_⟩:=w;rw [upd_same] at e;cases e
  | dt kvs=>obtain ⟨vs,e,_⟩:=w;rw [upd_same] at e;cases e
theorem PostS.mut (r:Rep K G so σ H sl) (e1:sl[i]?=some (some (.own o))) (e2:σ[i]?=some (some (.ref a))) (w:OwnOk K G (upd H a u) a o'):PostS K G so σ H sl σ (upd H a u) G (sl.set i (some (.own o'))):=by
  have ow:Own sl σ a:=⟨i,o,e1,e2⟩
  obtain ⟨na,ga,sa⟩:=r.nown ow
  have li:i < sl.length:=(List.getElem?_eq_some_iff.mp e1).1
  have ba:∀ b,Own (sl.set i (some (.own o'))) σ b->Own sl σ b:=fun b ⟨j,o2,f1,f2⟩=>by
    rcases get_set f1 with ⟨rfl,f3⟩ | ⟨nj,f3⟩
    · exact ⟨j,o,e1,f2⟩
    · exact ⟨j,o2,f3,f2⟩
  have gn:∀ b q,G b=some q->b≠a:=fun b q h z=>by subst z;rw [ga] at h;cases h
  refine ⟨Ex.refl G,⟨⟨fun b q h=>by rw [upd_ne (gn b q h)];exact r.h.ex b q h,fun b k e=>(r.h.vol b k e).keep (Ex.refl G) (r.h.vol b k e).g (upd_ne fun z=>sa (by rw [<- z];exact ⟨k,e⟩)),r.h.ok,aeZ r.h.tp (fun xs z=>by subst z;exact alH w)⟩,by rw [List.length_set];exact r.len,fun j dv f=>?_,fun j k p p' b f1 f2 g1 g2=>?_,fun j p b f1 f2 z=>?_,fun j p f=>?_⟩,
    fun b q h s n=>by rw [upd_ne (fun z=>n (by rw [z];exact ow))];exact h,fun _ _ g _ _=>g,fun b _ _ n z=>n (ba b z),rfl⟩
  · rcases get_set f with ⟨rfl,f3⟩ | ⟨nj,f3⟩
    · cases f3
      exact ⟨_,e2,a,rfl,ga,sa,w⟩
    · obtain ⟨v,f4,f5⟩:=r.slots j dv f3
      refine ⟨v,f4,?_⟩
      cases dv with
      | d x=>exact f5
      | src=>exact f5
      | own p=>
        obtain ⟨b,rfl,gb,sb,ok⟩:=f5
        have nb:b≠a:=fun z=>nj (r.sep j i p o b f3 e1 f4 (by rw [z];exact e2))
        exact ⟨b,rfl,gb,sb,ok.keep (Ex.refl G) (upd_ne nb)⟩
      | bor p=>
        obtain ⟨b,rfl,sb,ok⟩:=f5
        have nb:b≠a:=fun z=>r.bor j p b f3 f4 (by rw [z];exact ow)
        exact ⟨b,rfl,sb,ok.keep (Ex.refl G) (upd_ne nb)⟩
      | see p=>exact absurd f3 (r.nse j p)
      | mu y D gs=>exact SlOk.muU f5 (Ex.refl _) sa
      | gh _ _=>exact SlOk.ghU f5 (Ex.refl _) sa
  · have h1:∃ q,sl[j]?=some (some (.own q)):=by
      rcases get_set f1 with ⟨rfl,_⟩ | ⟨_,z⟩
      · exact ⟨_,e1⟩
      · exact ⟨_,z⟩
    have h2:∃ q,sl[k]?=some (some (.own q)):=by
      rcases get_set f2 with ⟨rfl,_⟩ | ⟨_,z⟩
      · exact ⟨_,e1⟩
      · exact ⟨_,z⟩
    obtain ⟨q1,h1⟩:=h1
    obtain ⟨q2,h2⟩:=h2
    exact r.sep j k q1 q2 b h1 h2 g1 g2
  · rcases get_set f1 with ⟨_,f3⟩ | ⟨_,f3⟩
    · cases f3
    · exact r.bor j p b f3 f2 (ba b z)
  · rcases get_set f with ⟨_,f3⟩ | ⟨_,f3⟩
    · cases f3
    · exact r.nse j p f3
end
def putD (f:Str) (d:D):List (Str × D)->List (Str × D)
  | []=>[(f,d)]
  | (g,x)::r=>if g=f then (g,d)::r else (g,x)::putD f d r
theorem FAll.put {K:PySem.W.Frag} {G:Hp} {f:Str} {v:V} {d:D} (h:DOk K G v d):∀ {vs:List (Str × V)} {fs:List (Str × D)},FAll K G vs fs->FAll K G (putF f v vs) (putD f d fs)
  | _,_,.nil=>.cons h .nil
  | _,_,.cons (x:=x) q t=>by
    unfold putF putD
    split
    · exact .cons h t
    · exact .cons q (FAll.put h t)
theorem FAll.length {K:PySem.W.Frag} {G:Hp}:∀ {vs:List (Str × V)} {fs:List (Str × D)},FAll K G vs fs->vs.length=fs.length
  | _,_,.nil=>rfl
  | _,_,.cons _ t=>congrArg (· + 1) t.length
def DV.inst:DV->Option (Addr × List (Str × D))
  | .d (.ins C fs)=>some (C,fs)
  | .own (.ins _ C fs)=>some (C,fs)
  | .bor (.ins _ C fs)=>some (C,fs)
  | .see (.ins _ C fs)=>some (C,fs)
  | _=>none
@[irreducible] def fldR (K:PySem.W.Frag) (f:Str) (x:DV) (Q:DV->Prop):Prop:=match x.inst with
  | some (C,fs)=>Cls K C/\NoAttr K C f/\match fs.lookup f with
    | some d=>Q (.d d)
    | none=>False
  | none=>False
section
variable {K:PySem.W.Frag} {G H:Hp} {so:So} {v:V} {dv:DV} {C:Addr} {fs:List (Str × D)}
theorem VOk.inst (h:HRep K G so H) (w:VOk K G so H v dv) (e:dv.inst=some (C,fs)):∃ a dx vs,v=.ref a/\H a=some (.ins C dx vs)/\FAll K G vs fs:=by
  unfold DV.inst at e
  split at e
  · cases e
    cases w with
    | ins g g2 t=>exact ⟨_,_,_,rfl,h.ex _ _ g,t⟩
  · cases e;obtain ⟨a,rfl,_,_,_,dx,vs,h1,_,h2⟩:=w;exact ⟨a,dx,vs,rfl,h1,h2⟩
  · cases e;obtain ⟨a,rfl,_,_,dx,vs,h1,_,h2⟩:=w;exact ⟨a,dx,vs,rfl,h1,h2⟩
  · cases e;obtain ⟨a,rfl,_,_,dx,vs,h1,_,h2⟩:=w;exact ⟨a,dx,vs,rfl,h1,h2⟩
  · cases e
theorem amQ {f:Str}:UnSem K (fun x H1 Q=>∃ a C dx fs v,x=.ref a/\H1 a=some (.ins C dx fs)/\Cls K C/\NoAttr K C f/\fs.lookup f=some v/\Q v H1) (fldR K f):=by
  intro G so H x dx Q R h w q hq
  unfold fldR at q
  split at q
  · rename_i C fs e
    obtain ⟨c,n,q⟩:=q
    split at q
    · rename_i d e2
      obtain ⟨a,dd,vs,rfl,h1,h2⟩:=w.inst h e
      obtain ⟨u,e3,e4⟩:=h2.look e2
      exact ⟨a,C,dd,vs,u,rfl,h1,c,n,e3,hq u H G _ (.dat h e4) q⟩
    · exact q.elim
  · exact q.elim
end
section
variable {X:Cx} {W:WX} {e o value:Expr} {f:Str} {pos pos':Pos} {te:TD} {i:Nat}
theorem aec {K:PySem.W.Frag} (he:DE X W e te) (hK:X.K=K:=by rfl) (hb:attributeBase e f X.env (eval e X.env)=eval e X.env:=by rfl):DE X W (.Attribute e f pos) (dUn (fldR K f) te):=by
  subst hK
  exact aa3 (pe_fld he hb) fun _ _ _ h=>anX amQ h
def dFldSet (K:PySem.W.Frag) (te:TD) (i:Nat) (f:Str):TDS:=fun E sl=>te sl (fun y s1=>match s1[i]?,pubV y with
  | some (some (.own (.ins x C fs))),.d d=>Cls K C/\NoAttr K C f/\fs.length < 1000/\E.nx (s1.set i (some (.own (.ins x C (putD f d fs)))))
  | _,_=>False) E.xc
theorem amu {K:PySem.W.Frag} (ho:PE X o (tVar i)) (hv:DE X W value te) (hK:X.K=K:=by rfl) (hs:swapsWith value (some (.Attribute o f pos')) pos.line X.env=pure false:=by rfl):DS X W (.Assign [.Attribute o f pos'] value pos) (dFldSet K te i f):=by
  subst hK
  refine adu (ps_fld ho hv hs) fun D σ H ⟨G,so,sl,E,rep,q,ok⟩=>?_
  refine ⟨G,so,sl,_,E.xc,rep,q,fun y H1 G1 dy s1 p1 z=>?_,ok.xc.ex⟩
  obtain ⟨G2,p2⟩:=p1.pub
  split at z
  · rename_i x C fs d e1 e2
    obtain ⟨c,n,l,z⟩:=z
    obtain ⟨v,f1,a,rfl,ga,sa,ex,dx,vs,h1,gd,h2⟩:=p2.rep.slots i _ e1
    subst ex
    have wy:DOk X.K G2 y d:=by have:=p2.val;rw [e2] at this;exact this
    refine ⟨.ref a,f1,a,C,dx,vs,rfl,h1,c,n,by rw [h2.length];exact l,?_⟩
    exact ok.nx σ _ G2 _ (p2.toPost.s.trans (PostS.mut (o':=.ins a C (putD f d fs)) p2.rep e1 f1 ⟨rfl,dx,_,upd_same,gd,h2.put wy⟩)) z
  · exact z.elim
def dAppend (te:TD) (i:Nat):TDS:=fun E sl=>(∃ ds,sl[i]?=some (some (.own (.lst ds))))/\te sl (fun y s1=>match s1[i]?,pubV y with
  | some (some (.own (.lst ds))),.d d=>ds.length < szl/\E.nx (s1.set i (some (.own (.lst (ds++[d])))))
  | _,_=>False) E.xc
theorem ak5 (ho:PE X o (tVar i)) (hv:DE X W value te) (hbase:attributeBase o "append" X.env (eval o X.env)=eval o X.env:=by rfl)
    (hfew:((backTo pos (starEach [value] X.env)).all (fun x=>!x.1) && (backToKw pos (keywordEach [] X.env)).all (fun x=>x.1.isSome)
      && decide ([value].length + ([]:List Keyword).length + (if ([]:List Keyword).isEmpty then 0 else 1) < 30))=true:=by rfl)
    (hline:(pos'.endLine == pos.line)=true:=by rfl) (hs:starEach [value] X.env=(false,eval value X.env)::starEach [] X.env:=by rfl) (hplain:(backTo pos (starEach [] X.env)).any (·.1)=false:=by rfl) {spos:Pos}
    (hsw:swapsWith (.Call (.Attribute o "append" pos') [value] [] pos) none spos.line X.env=pure false:=by rfl) :
    DS X W (.Expr (.Call (.Attribute o "append" pos') [value] [] pos) spos) (dAppend te i):=by
  refine adu (ps_expr (pe_bm PySem.F.plainAttrs_list PySem.F.slot_list_append PySem.F.type_list_append mt_append ho (pa_cons hv pa_nil hs) hbase hfew hline hs hplain) hsw) fun D σ H ⟨G,so,sl,E,rep,q,ok⟩=>?_
  obtain ⟨⟨ds0,e0⟩,q⟩:=q
  obtain ⟨v0,f0,a,rfl,ga,sa,vs0,h0,d0⟩:=rep.slots i _ e0
  refine ⟨.ref a,f0,.inl ⟨rfl,_,SqL.of h0⟩,?_⟩
  refine ⟨G,so,sl,_,E.xc,rep,q,fun y H1 G1 dy s1 p1 z=>?_,ok.xc.ex⟩
  obtain ⟨G2,p2⟩:=p1.pub
  split at z
  · rename_i ds d e1 e2
    obtain ⟨l,z⟩:=z
    obtain ⟨v,f1,b,rfl,gb,sb,vs,h1,h2⟩:=p2.rep.slots i _ e1
    rw [f0] at f1
    cases f1
    have wy:DOk X.K G2 y d:=by have:=p2.val;rw [e2] at this;exact this
    refine ⟨a,vs,y,rfl,rfl,h1,by rw [h2.length];exact l,?_⟩
    exact ok.nx σ _ G2 _ (p2.toPost.s.trans (PostS.mut (o':=.lst (ds++[d])) p2.rep e1 f0 ⟨_,upd_same,h2.append (.cons wy .nil)⟩)) z
  · exact z.elim
end
abbrev SpI:=List DV->(List (Str × D)->Prop)->XE'->Prop
structure PostX (K:PySem.W.Frag) (G:Hp) (so:So) (H:Hp) (x:Addr) (H' G':Hp):Prop where
  ex:Ex G G'
  hrep:HRep K G' so H'
  keep:∀ a o,H a=some o->so.Nt a->a≠x->H' a=some o
  frm:∀ a,H a≠none->G a=none->so.Nt a->a≠x->G' a=none
structure PostI (K:PySem.W.Frag) (G:Hp) (so:So) (H:Hp) (x C:Addr) (H' G':Hp) (fs:List (Str × D)):Prop extends PostX K G so H x H' G' where
  own:OwnOk K G' H' x (.ins x C fs)
  gx:G' x=none
def upIn (K:PySem.W.Frag) (C:Addr) (sp:SpI):Sp:=fun vs H Q E=>∃ x vs' G so args QD ED,vs=.ref x::vs'/\HRep K G so H/\OwnOk K G H x (.ins x C [])/\G x=none/\so.Nt x/\VsOk K G so H vs' args/\sp args QD ED/\
  (∀ H' G' fs,PostI K G so H x C H' G' fs->QD fs->Q .non H')/\(∀ cls d H' G' fs,PostX K G so H x H' G'->XdOk K G' H' d fs->ED cls fs->E cls d H')
def endI (x C:Addr) (Q:List (Str × D)->Prop) (sl:DSt):Prop:=∃ fs,sl[0]?=some (some (.own (.ins x C fs)))/\Q fs
theorem start_get0 {N:List Str} {d e:DV} {args:List DV} {i:Nat} (h:(startD N (d::args))[i]?=some (some e)):(i=0/\e=d)\/∃ j,i=j + 1/\args[j]?=some e:=by
  have z:=acZ h
  cases i with
  | zero=>left;simp at z;exact ⟨rfl,z.symm⟩
  | succ j=>right;exact ⟨j,rfl,by simpa using z⟩
theorem aeq {N:List Str} {vs:List V} {i:Nat} {v:V} (h:vs[i]?=some v):(L2.start N vs)[i]?=some (some v):=by
  unfold L2.start
  have hi:i < vs.length:=(List.getElem?_eq_some_iff.mp h).1
  rw [List.getElem?_append_left (by simpa using hi),List.getElem?_map,h];rfl
def noZero:List Sel->Bool
  | []=>true
  | .pos 0::_=>false
  | _::r=>noZero r
theorem aex {v v':V} {vs qs:List V}:∀ {sel:List Sel},noZero sel=true->sel.map (pickV (v::vs) qs)=sel.map (pickV (v'::vs) qs)
  | [],_=>rfl
  | .pos 0::_,h=>by cases h
  | .pos (i + 1)::r,h=>by rw [List.map_cons,List.map_cons,aex (sel:=r) h];rfl
  | .kw j::r,h=>by rw [List.map_cons,List.map_cons,aex (sel:=r) h];rfl
  | .dfl a b::r,h=>by rw [List.map_cons,List.map_cons,aex (sel:=r) h];rfl
def dMake (sp:SpI) (C:Addr) (n m:Nat) (sel:List Sel) (ta tk:TDA):TD:=fun sl Q E=>ta sl (fun xs s1=>tk s1 (fun ys s2=>xs.length=n/\ys.length=m/\sp (sel.map (pickD (.d .non::xs) ys)) (fun fs=>Q (.d (.ins C fs)) s2) fun cls fs=>E cls fs s2) E) E
section
variable {X:Cx} {W:WX} {k n:Nat} {f C:Addr} {fd:FuncData} {ps ks:List Str} {sp:SpI} {sel:List Sel} {x nm:Str} {p pos kpos:Pos} {e:Expr} {es:List Expr} {kws:List Keyword} {ta tk tk':TDA} {te:TD}
theorem ahx {pins:List (Addr × Obj)} {σ:L2.St} {H G:Hp} {so:So} {sl:DSt} {s:Shared} {Q:VK} {us ws:List Value} {vs qs:List V} {ds es:List DV} {Q':DV->DSt->Prop} {E:XP} (M:Mk X.K C f) (F:FnR X.prog X.w X.K X.mg X.base k f fd ps (upIn X.K C sp)) (hr:Room (k + 1) X.A) (hg:X.A.guards=some []) (tk:L2N.Takes X W) (hb:Bd X.K fd ps (n + 1) ks (.pos 0::sel)) (hz:noZero sel=true)
    (I:Inv X pins σ H s) (rep:Rep X.K G so σ H sl) (r:Vals vs us) (r2:Vals qs ws) (w:VsOk X.K G so H vs ds) (w2:VsOk X.K G so H qs es) (l1:ds.length=n) (l2:es.length=ks.length)
    (q:sp (sel.map (pickD (.d .non::ds) es)) (fun fs=>Q' (.d (.ins C fs)) sl) fun cls fs=>E cls fs sl) (hq:∀ v H' G' dv sl',PostE X.K G so σ H sl v H' G' dv sl'->Q' dv sl'->Q v H') (hx:XOk X.K W G so σ H sl E) :
    wpAny (model X.prog X.w) X.A (call (.ref C) us (ks.zip ws)) (EP X pins σ Q) X.xe s:=by
  have I2:=Inv.made (C:=C) I
  generalize hxx:s.heap.objs.size + 1=x at I2
  have nx:H x=none:=by rw [<- hxx];exact I.hok.fresh (Nat.le_succ _)
  have nd:H s.heap.objs.size=none:=I.hok.fresh (Nat.le_refl _)
  have ne:s.heap.objs.size≠x:=by rw [<- hxx];exact Nat.ne_of_lt (Nat.lt_succ_self _)
  generalize hdd:s.heap.objs.size=dx at I2 nd ne
  have nx2:upd H dx (.own x) x=none:=by rw [upd_ne (Ne.symm ne)];exact nx
  have h0:HRep X.K (upd G dx (.own x)) so (upd (upd H dx (.own x)) x (.ins C dx [])):=(rep.h.allocG nd).alloc nx2
  have gx:upd G dx (.own x) x=none:=by rw [upd_ne (Ne.symm ne)];exact rep.h.ex.free nx
  have kp:∀ a o,H a=some o->upd (upd H dx (.own x)) x (.ins C dx []) a=some o:=fun a o e=>by
    rw [upd_ne (ne_of_none e nx),upd_ne (ne_of_none e nd)];exact e
  have eg:Ex G (upd G dx (.own x)):=Ex.new (rep.h.ex.free nd)
  have w':VsOk X.K (upd G dx (.own x)) so (upd (upd H dx (.own x)) x (.ins C dx [])) vs ds:=w.keep eg fun a o e _=>kp a o e
  have w2':VsOk X.K (upd G dx (.own x)) so (upd (upd H dx (.own x)) x (.ins C dx [])) qs es:=w2.keep eg fun a o e _=>kp a o e
  obtain ⟨zs,bt,rz⟩:=hb.to _ (.ref x::us) ws (.ref x::vs) qs I2.kIn (by rw [List.length_cons,<- r.length,w.length,l1]) (by rw [<- r2.length,w2.length,l2]) (.cons rfl r) r2
  have pk:VsOk X.K (upd G dx (.own x)) so (upd (upd H dx (.own x)) x (.ins C dx [])) (sel.map (pickV (.ref x::vs) qs)) (sel.map (pickD (.d .non::ds) es)):=by
    rw [aex (v':=.non) hz]
    exact VsOk.pick (.cons (d:=.d .non) (show DOk _ _ _ _ from .non) (fun _ e=>(nomatch e)) w') w2' sel fun s hs=>hb.dok s (List.mem_cons_of_mem _ hs)
  subst hdd
  subst hxx
  refine wpAny_call (make_map (f:=f) I.kIn M.makes M.init (beq_iff_eq.mp M.fn) (codeAny_mono (F.run _ X.stack _ _ ⟨Value.ref (s.heap.objs.size + 1)::us,ks.zip ws⟩ zs _ (fun v H2=>v=.non/\Q (.ref (s.heap.objs.size + 1)) H2) (fun cls d H'=>W cls d σ H') (hr.make C us (ks.zip ws)) hg
    (I2.env0.make C us (ks.zip ws)) bt rz ⟨s.heap.objs.size + 1,_,_,so.drop,_,_,_,rfl,h0.drop,⟨rfl,_,[],upd_same,upd_same,.nil⟩,gx,So.drop_nt (rep.h.there nx),pk.drop,q,fun H' G' fs p z=>⟨rfl,?_⟩,fun cls d H' G' fs p z1 z2=>?_⟩) fun r s' hz'=>?_))
  · obtain ⟨_,dx',vs2,e1,e2,e3⟩:=p.own
    have gn:G' (s.heap.objs.size + 1)=none:=p.gx
    have hb':HRep X.K G' so H':=h0.back p.ex p.hrep (fun a C o e nt ho=>p.keep a o ho nt (fun z=>by subst z;exact rep.h.there nx ⟨_,e⟩)) (fun a C e nt n g=>p.frm a n g nt fun z=>by subst z;exact rep.h.there nx ⟨_,e⟩)
    have pv:PostV X.K G so H (.ref (s.heap.objs.size + 1)) H' (upd G' (s.heap.objs.size + 1) (.ins C dx' vs2)) (.d (.ins C fs)):=
      ⟨eg.trans (p.ex.trans (Ex.new gn)),afi hb' e1 gn (rep.h.there nx),fun a o e sa=>p.keep a o (kp a o e) (So.drop_nq sa) (ne_of_none e nx),fun a n1 g sa=>by
        have n2:a≠s.heap.objs.size + 1:=fun z=>by rw [z] at n1;exact n1 nx
        have n3:a≠s.heap.objs.size:=fun z=>by rw [z] at n1;exact n1 nd
        rw [upd_ne n2]
        exact p.frm a (by rw [upd_ne n2,upd_ne n3];exact n1) (by rw [upd_ne n3];exact g) (So.drop_nt sa) n2,
        .ins upd_same (Ex.new gn _ _ e2) (e3.mono (Ex.new gn)),fun _ _ e=>(nomatch e),fun _ e=>(nomatch e)⟩
    exact hq _ H' _ _ sl (pv.slots rep) z
  · have hb':HRep X.K G' so H':=h0.back p.ex p.hrep (fun a C o e nt ho=>p.keep a o ho nt (fun z=>by subst z;exact rep.h.there nx ⟨_,e⟩)) (fun a C e nt n g=>p.frm a n g nt fun z=>by subst z;exact rep.h.there nx ⟨_,e⟩)
    have pn:PostV X.K G so H .non H' G' (.d .non):=⟨eg.trans p.ex,hb',fun a o e sa=>p.keep a o (kp a o e) (So.drop_nq sa) (ne_of_none e nx),fun a n1 g sa=>by
        have n2:a≠s.heap.objs.size + 1:=fun z=>by rw [z] at n1;exact n1 nx
        have n3:a≠s.heap.objs.size:=fun z=>by rw [z] at n1;exact n1 nd
        exact p.frm a (by rw [upd_ne n2,upd_ne n3];exact n1) (by rw [upd_ne n3];exact g) (So.drop_nt sa) n2,.non,fun _ _ e=>(nomatch e),fun _ e=>(nomatch e)⟩
    exact hx cls d H' G' fs sl (pn.slots rep).toPost z1 z2
  · cases r with
    | error e=>exact tk e s' (L2N.XE.of_call I2 (fun _ _ _ z=>z) hz')
    | ok fl=>
      cases fl with
      | ret u=>
        obtain ⟨v,H',I3,rv,ev,q3⟩:=I2.after hz'
        subst ev
        exact ⟨rv,⟨V.ref (s.heap.objs.size + 1),H',I3,rfl,q3⟩⟩
      | next=>exact False.elim hz'
      | brk=>exact False.elim hz'
      | cont=>exact False.elim hz'
theorem anL (M:Mk X.K C f) (F:FnR X.prog X.w X.K X.mg X.base k f fd ps (upIn X.K C sp)) (hr:Room (k + 1) X.A) (hgd:X.A.guards=some []) (tk:L2N.Takes X W) (hb:Bd X.K fd ps (n + 1) [] (.pos 0::sel)) (hz:noZero sel=true) (hg:Gl X x) (hm:X.mg x=some (.ref C))
    (ha:DA X W (e::es) ta) (hdb:(x == ("__debug__":Str))=false:=by decide) (he:starEach (e::es) X.env=(false,eval e X.env)::starEach es X.env:=by rfl) (hpl:(backTo pos (starEach es X.env)).any (·.1)=false:=by rfl) :
    DE X W (.Call (.Name x p) (e::es) [] pos) (dMake sp C n 0 sel ta dNil):=by
  refine ⟨fun pins s σ H Q I ⟨G,so,sl,Q',E,rep,q,hq,hx⟩=>wpAny_Call_Name_kw (ld_glob I hg hm ?_ hdb)⟩
  refine PySem.W.callWith_K (h₀:=X.base) I.ok.mod.kin M.kp (thn (ha.run pos pins s σ H (fun vs H1=>∃ G1 ds s1,Post X.K G so σ H sl H1 G1 s1/\VsOk X.K G1 so H1 vs ds/\ds.length=n/\sp (sel.map (pickD (.d .non::ds) [])) (fun fs=>Q' (.d (.ins C fs)) s1) fun cls fs=>E cls fs s1) I
    ⟨G,so,sl,_,E,rep,q,fun vs H1 G1 ds s1 p1 w z=>⟨G1,ds,s1,p1,w,z.1,z.2.2⟩,hx⟩) fun us s1 ⟨vs,H1,I1,r,G1,ds,sl1,p1,w,l1,z⟩=>⟨I1.kIn,?_⟩) he hpl
  exact ahx (ws:=[]) (qs:=[]) (es:=[]) M F hr hgd tk hb hz I1 p1.rep r .nil w .nil l1 rfl z (fun v H' G' dv sl' pe z'=>hq v H' G' dv sl' (p1.thenE pe) z') (hx.step p1)
theorem ajg (M:Mk X.K C f) (F:FnR X.prog X.w X.K X.mg X.base k f fd ps (upIn X.K C sp)) (hr:Room (k + 1) X.A) (hgd:X.A.guards=some []) (tk:L2N.Takes X W) (hb:Bd X.K fd ps (n + 1) ks (.pos 0::sel)) (hz:noZero sel=true) (hg:Gl X x) (hm:X.mg x=some (.ref C))
    (ha:DA X W (e::es) ta) (hkw:DK X W kws tk') (hall:(backToKw pos (keywordEach kws X.env)).all (·.1.isSome)=true:=by rfl) (hks:(backToKw pos (keywordEach kws X.env)).filterMap (·.1)=ks:=by rfl) (hdb:(x == ("__debug__":Str))=false:=by decide)
    (he:starEach (e::es) X.env=(false,eval e X.env)::starEach es X.env:=by rfl) (hpl:((backTo pos (starEach (e::es) X.env)).any (·.1) || (backToKw pos (keywordEach kws X.env)).any (·.1.isNone))=false:=by rfl) :
    DE X W (.Call (.Name x p) (e::es) kws pos) (dMake sp C n ks.length sel ta tk'):=by
  refine ⟨fun pins s σ H Q I ⟨G,so,sl,Q',E,rep,q,hq,hx⟩=>wpAny_Call_Name_kw (ld_glob I hg hm ?_ hdb)⟩
  refine PySem.W.callWith_KW (h₀:=X.base) I.ok.mod.kin M.kp hall (thn (ha.run pos pins s σ H (fun vs H1=>∃ G1 ds s1,Post X.K G so σ H sl H1 G1 s1/\VsOk X.K G1 so H1 vs ds/\tk' s1 (fun ys s2=>ds.length=n/\ys.length=ks.length/\sp (sel.map (pickD (.d .non::ds) ys)) (fun fs=>Q' (.d (.ins C fs)) s2) fun cls fs=>E cls fs s2) E) I
    ⟨G,so,sl,_,E,rep,q,fun vs H1 G1 ds s1 p1 w z=>⟨G1,ds,s1,p1,w,z⟩,hx⟩) fun us s1 ⟨vs,H1,I1,r,G1,ds,sl1,p1,w,z⟩=>?_) hpl he
  refine thn (hkw.run pos pins s1 σ H1 (fun qs H2=>∃ G2 es s2,Post X.K G1 so σ H1 sl1 H2 G2 s2/\VsOk X.K G2 so H2 qs es/\ds.length=n/\es.length=ks.length/\sp (sel.map (pickD (.d .non::ds) es)) (fun fs=>Q' (.d (.ins C fs)) s2) fun cls fs=>E cls fs s2) I1
    ⟨G1,so,sl1,_,E,p1.rep,z,fun qs H2 G2 es s2 p2 w2 z=>⟨G2,es,s2,p2,w2,z⟩,hx.step p1⟩) fun ws s2 ⟨qs,H2,I2,r2,G2,es,sl2,p2,w2,l1,l2,z⟩=>⟨I2.kIn,?_⟩
  rw [hks]
  exact ahx M F hr hgd tk hb hz I2 p2.rep r r2 (w.keep p2.ex p2.keep) w2 l1 l2 z (fun v H' G' dv sl' pe z'=>hq v H' G' dv sl' ((p1.trans p2).thenE pe) z') (hx.step (p1.trans p2))
end
def dMeth (sp:SpD) (C:Addr) (m:Str) (n l:Nat) (sel:List Sel) (to:TD) (ta tk:TDA):TD:=fun sl Q E=>to sl (fun x s0=>match pubV x with
  | .d (.ins D fs)=>D=C/\fs.lookup m=none/\ta s0 (fun xs s1=>tk s1 (fun ys s2=>xs.length=n/\ys.length=l/\sp (sel.map (pickD (.d (.ins D fs)::xs) ys)) (fun v=>Q v s2) fun cls fs=>E cls fs s2) E) E
  | _=>False) E
section
variable {X:Cx} {W:WX} {k n:Nat} {f C:Addr} {fd:FuncData} {ps ks:List Str} {sp:SpD} {sel:List Sel} {m nm:Str} {p pos apos kpos:Pos} {o e:Expr} {es:List Expr} {kws:List Keyword} {ta tk tk':TDA} {to te:TD} {pl:Sem Bool}
theorem aha (he:DE X W o to) (c:Cls X.K C) (hm:Meth X.K C m f) (F:FnG X.prog X.w X.K X.mg X.base k f fd ps sp) (hr:Room k X.A) (hgd:X.A.guards=some []) (tk:L2N.Takes X W) (hb:Bd X.K fd ps (n + 1) [] sel) (ha:DA X W (e::es) ta)
    (hst:starEach (e::es) X.env=(false,eval e X.env)::starEach es X.env:=by rfl) (hpl:(backTo pos (starEach es X.env)).any (·.1)=false:=by rfl)
    (ht:eval (.Call (.Attribute o m apos) (e::es) [] pos) X.env=(do
      let ov <- eval o X.env
      standAt apos.atName
      let (f,first) <- holding [ov] (getMethod ov m pl)
      callWith pos f first (backTo pos (starEach (e::es) X.env)) (backToKw pos (keywordEach [] X.env))):=by rfl) :
    DE X W (.Call (.Attribute o m apos) (e::es) [] pos) (dMeth sp C m n 0 sel to ta dNil):=by
  refine ⟨fun pins s σ H Q I ⟨G,so,sl,Q',E,rep,q,hq,hx⟩=>?_⟩
  refine PySem.W.methodCall_KW (pl:=pl) (thn (he.run pins s σ H (fun v H1=>∃ G1 s1 fs,PostE X.K G so σ H sl v H1 G1 (.d (.ins C fs)) s1/\fs.lookup m=none/\ta s1 (fun xs s2=>dNil s2 (fun ys s3=>xs.length=n/\ys.length=0/\sp (sel.map (pickD (.d (.ins C fs)::xs) ys)) (fun v=>Q' v s3) fun cls fs=>E cls fs s3) E) E) I
    ⟨G,so,sl,_,E,rep,q,fun v H1 G1 dv s1 p1 z=>?_,hx⟩) fun u s1 ⟨x,H1,I1,rx,G1,sl1,fs,p1,l,z⟩=>?_) ht
  · obtain ⟨G2,p2⟩:=p1.pub
    split at z
    · rename_i D fs ed
      obtain ⟨rfl,l,z⟩:=z
      exact ⟨G2,s1,fs,by rw [<- ed];exact p2,l,z⟩
    · exact z.elim
  · obtain ⟨a,dx,vs,ex,ea,fa⟩:=VOk.inst p1.rep.h p1.val rfl
    subst ex
    obtain rfl:u=Value.ref a:=rx
    refine getmeth_ok I1 ea c hm (fa.lookN l) ?_
    refine PySem.W.callWith_K (first:=[.ref a]) (h₀:=X.base) I.ok.mod.kin hm.kp (thn (ha.run pos pins s1 σ H1 (fun vs H2=>∃ G2 ds s2,Post X.K G1 so σ H1 sl1 H2 G2 s2/\VsOk X.K G2 so H2 vs ds/\ds.length=n/\sp (sel.map (pickD (.d (.ins C fs)::ds) [])) (fun v=>Q' v s2) fun cls fs=>E cls fs s2) I1
      ⟨G1,so,sl1,_,E,p1.rep,z,fun vs H2 G2 ds s2 p2 w z=>⟨G2,ds,s2,p2,w,z.1,z.2.2⟩,hx.step p1.toPost⟩) fun us s2 ⟨vs2,H2,I2,r,G2,ds,sl2,p2,w,l1,z⟩=>⟨I2.kIn,?_⟩) hst hpl
    exact aie (us:=.ref a::us) (vs:=.ref a::vs2) (ds:=.d (.ins C fs)::ds) (ws:=[]) (qs:=[]) (es:=[]) F hr hgd tk hb I2 p2.rep (.cons rfl r) .nil (.cons (p1.over p2) (fun _ e=>(nomatch e)) w) .nil (by rw [List.length_cons,l1]) rfl z (fun v H' G' dv sl' pe z'=>hq v H' G' dv sl' ((p1.toPost.trans p2).thenE pe) z') (hx.step (p1.toPost.trans p2))
theorem al2 (he:DE X W o to) (c:Cls X.K C) (hm:Meth X.K C m f) (F:FnG X.prog X.w X.K X.mg X.base k f fd ps sp) (hr:Room k X.A) (hgd:X.A.guards=some []) (tk:L2N.Takes X W) (hb:Bd X.K fd ps (0 + 1) [] sel)
    (ht:eval (.Call (.Attribute o m apos) [] [] pos) X.env=(do
      let ov <- eval o X.env
      standAt apos.atName
      let (f,first) <- holding [ov] (getMethod ov m pl)
      callWith pos f first (backTo pos (starEach [] X.env)) (backToKw pos (keywordEach [] X.env))):=by rfl) :
    DE X W (.Call (.Attribute o m apos) [] [] pos) (dMeth sp C m 0 0 sel to dNil dNil):=by
  refine ⟨fun pins s σ H Q I ⟨G,so,sl,Q',E,rep,q,hq,hx⟩=>?_⟩
  refine PySem.W.methodCall_KW (pl:=pl) (thn (he.run pins s σ H (fun v H1=>∃ G1 s1 fs,PostE X.K G so σ H sl v H1 G1 (.d (.ins C fs)) s1/\fs.lookup m=none/\sp (sel.map (pickD [.d (.ins C fs)] [])) (fun v=>Q' v s1) fun cls fs=>E cls fs s1) I
    ⟨G,so,sl,_,E,rep,q,fun v H1 G1 dv s1 p1 z=>?_,hx⟩) fun u s1 ⟨x,H1,I1,rx,G1,sl1,fs,p1,l,z⟩=>?_) ht
  · obtain ⟨G2,p2⟩:=p1.pub
    split at z
    · rename_i D fs ed
      obtain ⟨rfl,l,z⟩:=z
      exact ⟨G2,s1,fs,by rw [<- ed];exact p2,l,z.2.2⟩
    · exact z.elim
  · obtain ⟨a,dx,vs,ex,ea,fa⟩:=VOk.inst p1.rep.h p1.val rfl
    subst ex
    obtain rfl:u=Value.ref a:=rx
    refine getmeth_ok I1 ea c hm (fa.lookN l) ?_
    exact PySem.W.callWith_K0 (first:=[.ref a]) I1.kIn hm.kp (aie (us:=[.ref a]) (vs:=[.ref a]) (ds:=[.d (.ins C fs)]) (ws:=[]) (qs:=[]) (es:=[]) F hr hgd tk hb I1 p1.rep (.cons rfl .nil) .nil (.cons p1.val (fun _ e=>(nomatch e)) .nil) .nil rfl rfl z (fun v H' G' dv sl' pe z'=>hq v H' G' dv sl' (p1.toPost.thenE pe) z') (hx.step p1.toPost))
end
section
variable {X:Cx} {K:PySem.W.Frag} {W:WX} {a b:Expr} {ta tb:TD} {pos:Pos}
def rMulU:R2:=fun x y H Q=>(rI CMulW fun i j=>.int (i * j)) x y H Q\/rRep x y H Q
theorem am4:OpR X (binaryOp .Mult) rMulU:=fun pins s σ H x y v u Q I rx ry h=>h.elim (fun h=>op_mulW pins s σ H x y v u Q I rx ry h) fun h=>op_rep pins s σ H x y v u Q I rx ry h
theorem DAll.rep {K:PySem.W.Frag} {G:Hp} {vs:List V} {ds:List D} (h:DAll K G vs ds):∀ n:Nat,DAll K G (List.replicate n vs).flatten (List.replicate n ds).flatten
  | 0=>.nil
  | n + 1=>by rw [List.replicate_succ,List.replicate_succ,List.flatten_cons,List.flatten_cons];exact h.append (h.rep n)
theorem amN:OpSem K rMulU mulR:=by
  intro G so H x y dx dy Q R h w1 w2 q k
  unfold mulR at q
  split at q
  · cases w1;cases w2
    exact .inl ⟨_,_,rfl,rfl,q.1,k _ H G _ (.dat h (.int _)) q.2⟩
  · rename_i c _
    cases w2
    split at q
    · rename_i ds e
      obtain ⟨l,vs,rfl,h1,h2⟩:=w1.list h e
      obtain ⟨q1,q2,q3,q4⟩:=q
      exact .inr ⟨l,c,vs,rfl,rfl,h1,q1,q2,by rw [h2.length];exact q3,fun p np=>k _ _ G _ (.list h np (h2.rep _)) q4⟩
    · exact q.elim
  · exact q.elim
theorem adw (ha:DE X W a ta) (hb:DE X W b tb):DE X W (.BinOp a .Mult b pos) (dOp mulR ta tb):=ajG am4 amN ha hb
end
theorem aea {Q:DV->Prop} {i j:Int} (h:CMulW i j) (q:Q (.d (.int (i * j)))):mulR (.d (.int i)) (.d (.int j)) Q:=by unfold mulR;exact ⟨h,q⟩
theorem amn {Q:DV->Prop} {v:DV} {ds:List D} {k:Int} (hv:v.items=some ds) (h1:-(2 ^ 63)<=k) (h2:k < 2 ^ 63) (h3:ds.length * k.toNat<=szl) (q:Q (.own (.lst (List.replicate k.toNat ds).flatten))):mulR v (.d (.int k)) Q:=by
  rcases items_cases hv with e | e | e | e<;>subst e<;>(unfold mulR;dsimp only [DV.items];exact ⟨h1,h2,h3,q⟩)
section
variable {X:Cx} {K:PySem.W.Frag}
end
def dPar (i j:Nat) (ta:TDA):TDS:=fun E sl=>ta sl (fun vs s1=>match vs with
  | [.d x,.d y]=>E.nx ((s1.set i (some (.d x))).set j (some (.d y)))
  | _=>False) E.xc
theorem PostE.ofD {K:PySem.W.Frag} {G G1:Hp} {so:So} {σ:L2.St} {H H1:Hp} {sl s1:DSt} {v:V} {x:D} (p:Post K G so σ H sl H1 G1 s1) (w:DOk K G1 v x):PostE K G so σ H sl v H1 G1 (.d x) s1:=
  { p with val:=w,new:=fun _ _ e=>(nomatch e),sepv:=fun _ _ e=>e.elim (fun e=>(nomatch e)) fun e=>(nomatch e),nbs:=fun _ _ _ _ e=>(nomatch e) }
section
variable {X:Cx} {W:WX} {pos:Pos} {i j:Nat} {x y:Str} {a b:Expr} {ta:TDA}
theorem amt {px py pt kt k2 pt2} (hc:X.calm=true) (hN:X.N.Nodup) (hi:X.N[i]?=some x) (hj:X.N[j]?=some y) (hij:i≠j)
    (hx:X.env.scope.names.lookup x=some .local) (hy:X.env.scope.names.lookup y=some .local) (ha:DA X W [a,b] ta)
    (hw:swappedStores [.Tuple [.Name x px,.Name y py] kt pt] (.Tuple [a,b] k2 pt2) X.env=pure (some [x,y]))
    (hs:swapsWithSole [.Tuple [.Name x px,.Name y py] kt pt] (.Tuple [a,b] k2 pt2) pos.line X.env=pure false:=by rfl) :
    DS X W (.Assign [.Tuple [.Name x px,.Name y py] kt pt] (.Tuple [a,b] k2 pt2) pos) (dPar i j ta):=by
  refine akf (ps_par hc hN hi hj hij hx hy ha hw hs) fun D σ H hl ⟨G,so,sl,E,rep,q,ok⟩=>?_
  have li:i < σ.length:=by rw [hl];exact (List.getElem?_eq_some_iff.mp hi).1
  have lj:j < σ.length:=by rw [hl];exact (List.getElem?_eq_some_iff.mp hj).1
  refine ⟨G,so,sl,_,E.xc,rep,q,fun vs H1 G1 ds s1 p w z=>?_,ok.xc.ex⟩
  split at z
  · rename_i d1 d2
    obtain ⟨v1,v2,rfl,w1,w2,_⟩:=w.v2
    have n1:∀ o,DV.d d1≠.see o:=fun _ e=>(nomatch e)
    have n2:∀ o,DV.d d2≠.see o:=fun _ e=>(nomatch e)
    have p1:=(PostE.ofD (x:=d1) p w1).set li n1
    have p2:=(PostE.ofD (x:=d2) (Post.refl p1.rep) w2).set (i:=j) (by rw [List.length_set];exact lj) n2
    exact ⟨v1,v2,rfl,ok.nx _ H1 G1 _ (p1.trans p2) z⟩
  · exact z.elim
end
theorem am3 {ta:TDA} {u:TDS} {E:EndsD} {sl s':DSt} {i j:Nat} (x y:D) (h:∀ Q:List DV->DSt->Prop,Q [.d x,.d y] s'->ta sl Q E.xc) (q:u E ((s'.set i (some (.d x))).set j (some (.d y)))):dSeq (dPar i j ta) u E sl:=h _ q
def tysD:List D->Option (List String)
  | []=>some []
  | .raw (.ty T)::r=>(tysD r).map (T::·)
  | _=>none
def kitBs (t:String):List String->Option Bool
  | []=>some false
  | T::r=>match kitB t T with
    | some true=>some true
    | some false=>kitBs t r
    | none=>none
def rIsiS (K:PySem.W.Frag):List V->Hp->VK->Prop:=fun xs H Q=>∃ (x:V) (tp:Addr) (cs:List V) (t:Value) (us:List Value) (b:Bool),xs=[x,.ref tp]/\SqT K H tp cs/\Paired ClsV cs us/\TyX K H x t/\PySem.W.kitAny K t us=some b/\Q (.bl b) H
theorem ah1 {X:Cx}:CallR X (.builtin "isinstance") (rIsiS X.K):=by
  intro pins s σ H xs us Q I r h
  obtain ⟨x,tp,cs,t,ws,b,rfl,hT,k,ty,e,q⟩:=h
  obtain ⟨u1,u2,rfl,r1,r2⟩:=vals2 r
  cases (show u2=Value.ref tp from r2)
  obtain ⟨P,Z,p,hx⟩:=kit_of I r1 ty
  obtain ⟨its,rv,⟨o,h1,h2,n,h3⟩,_⟩:=I.tuple hT
  have e3:=ClsV.all k rv
  subst e3
  obtain ⟨oc,od,dt,sl⟩:=o
  simp only at h2 h3
  subst h2 h3
  exact PySem.W.kia_tup Z I.kIn p h1 e hx fun tk=>⟨.bl b,H,I.tok tk,rfl,q⟩
@[irreducible] def isiTR:List DV->(DV->Prop)->Prop
  | [v,.d (.tup ts)],Q=>match v.dat,tysD ts with
    | some d,some Ts=>match tyD d with
      | some t=>match kitBs t Ts with
        | some b=>Q (.d (.bl b))
        | none=>False
      | none=>False
    | _,_=>False
  | _,_=>False
theorem amc {K:PySem.W.Frag} {G:Hp}:∀ {vs:List V} {ts:List D} {Ts:List String},DAll K G vs ts->tysD ts=some Ts->Paired ClsV vs (Ts.map Value.type)
  | _,_,_,.nil,e=>by cases e;exact .nil
  | _,_,_,.cons (d:=.raw (.ty T)) h t,e=>by
    unfold tysD at e
    rename_i ds
    cases z:tysD ds with
    | none=>rw [z] at e;cases e
    | some Us=>rw [z] at e;cases e;cases h;exact .cons (.ty _) (amc t z)
theorem kits_ok {K:PySem.W.Frag} {t:String}:∀ {Ts:List String} {b:Bool},kitBs t Ts=some b->PySem.W.kitAny K (.type t) (Ts.map Value.type)=some b
  | [],_,e=>by cases e;rfl
  | T::r,b,e=>by
    unfold kitBs at e
    rw [List.map_cons]
    unfold PySem.W.kitAny
    split at e
    · rename_i h;cases e;rw [kit_ty h]
    · rename_i h;rw [kit_ty h];exact kits_ok e
    · cases e
theorem aiQ {K:PySem.W.Frag}:CallSem K (rIsiS K) isiTR:=by
  intro G so H xs dxs Q R h w q k
  unfold isiTR at q
  split at q
  · obtain ⟨v,v',rfl,w1,w2,_⟩:=w.v2
    split at q
    · rename_i d Ts e1 e2
      split at q
      · rename_i t et
        split at q
        · rename_i b eb
          cases w2 with
          | tup sq al=>exact ⟨_,_,_,_,_,b,rfl,ex_t h.ex sq,amc al e2,anZ h w1 e1 et,kits_ok eb,k _ H G _ (.dat h (.bl _)) q⟩
        · exact q.elim
      · exact q.elim
    · exact q.elim
  · exact q.elim
theorem aov {Q:DV->Prop} {v:DV} {d:D} {ts:List D} {Ts:List String} {t:String} {b:Bool} (h1:v.dat=some d) (h2:tysD ts=some Ts) (h3:tyD d=some t) (h4:kitBs t Ts=some b) (q:Q (.d (.bl b))):isiTR [v,.d (.tup ts)] Q:=by
  unfold isiTR
  dsimp only
  rw [h1,h2]
  dsimp only
  rw [h3]
  dsimp only
  rw [h4]
  exact q
theorem aoR {K:PySem.W.Frag} {x qual:Str} {params:Arguments} {body:List Stmt} {scope:Scope} {kws:List (Str × V)} {f:Addr} {fd:FuncData} {ps ks:List Str} {n:Nat} {sel:List Sel} (F:FunD K x qual params body scope [] kws f fd) (ms:List (Str × V)) (hk:kws≠[]) (hms:∀ q∈ms,q∈kws) (g:{α:Type}->List α->List α->List α->List α)
    (hrel:∀ {vs mz zs:List V} {us mv ws:List Value},Vals vs us->Vals mz mv->Vals zs ws->Vals (g vs mz zs) (g us mv ws))
    (h:∀ (D:Addr) (doc pm:Value) (an:Option Addr) (cdv ct:Value) (us mv ws:List Value),us.length=n->mv.length=ms.length->ws.length=ks.length->
      KwChain D ((ms.map (·.1)).zip mv) (bindArgs (PySem.W.fnOf x qual params body scope .none (.ref D) doc pm an cdv ct) ⟨us,ks.zip ws⟩) (ps.zip (g us mv ws)))
    (hv:∀ (vs qs:List V),vs.length=n->qs.length=ks.length->sel.map (pickV vs qs)=g vs (ms.map (·.2)) qs) (hs:∀ s∈sel,∀ (v:V) (d:D),s=.dfl v d->∀ G,DOk K G v d):Bd K fd ps n ks sel:=by
  obtain ⟨mv,B⟩:=F.kbinds0 (ps:=ps) n ks ms g hk hms hrel h
  exact ⟨fun s us ws vs qs X l1 l2 r1 r2=>⟨_,B.to s us ws X l1 l2,by rw [hv vs qs (r1.length.trans l1) (r2.length.trans l2)];exact B.rel r1 r2⟩,hs⟩
abbrev rt (n d:Int):D:=.tup [.int n,.int d]
def rD (q:Rat):D:=rt q.num (q.den:Int)
def gcI (n d:Int):Int:=((Nat.gcd n.natAbs d.natAbs:Nat):Int)
theorem akX {n d:Int} (h:0 < d):0 < gcI n d:=by
  unfold gcI
  have:0 < Nat.gcd n.natAbs d.natAbs:=Nat.gcd_pos_of_pos_right _ (by omega)
  omega
theorem aky {n d:Int} (h:0 < d):(Rat.divInt n d).num=n / gcI n d:=by
  rw [Rat.num_divInt,Int.sign_eq_one_of_pos h,Int.one_mul]
  unfold gcI
  rw [Int.gcd_comm];rfl
theorem akz {n d:Int} (h:0 < d):((Rat.divInt n d).den:Int)=d / gcI n d:=by
  rw [Rat.den_divInt,if_neg (by omega),Int.gcd_comm]
  show ((d.natAbs / Nat.gcd n.natAbs d.natAbs:Nat):Int)=d / ((Nat.gcd n.natAbs d.natAbs:Nat):Int)
  rw [Int.natCast_ediv,Int.natAbs_of_nonneg (by omega)]
theorem akd {n d:Int} (h:0 < d):rD (Rat.divInt n d)=rt (n / gcI n d) (d / gcI n d):=by
  unfold rD;rw [aky h,akz h]
theorem den_pos (q:Rat):(0:Int) < (q.den:Int):=by have:=q.den_pos;omega
theorem aff (q:Rat):Rat.divInt q.num (q.den:Int)=q:=Rat.num_divInt_den q
theorem agQ (p q:Rat):Rat.divInt (p.num * q.den + q.num * p.den) ((p.den:Int) * q.den)=p + q:=by
  have h1:(p.den:Int)≠0:=by have:=den_pos p;omega
  have h2:(q.den:Int)≠0:=by have:=den_pos q;omega
  rw [<- Rat.divInt_add_divInt _ _ h1 h2,aff,aff]
theorem amg (p q:Rat):decide (p.num * (q.den:Int) < q.num * p.den)=decide (p < q):=decide_eq_decide.mpr (Rat.lt_iff p q).symm
structure Nb (B:Nat) (q:Rat):Prop where
  n:q.num.natAbs < 2 ^ B
  d:q.den < 2 ^ B
theorem Nb.mono {B C:Nat} {q:Rat} (h:Nb B q) (le:B<=C):Nb C q:=⟨Nat.lt_of_lt_of_le h.n (Nat.pow_le_pow_right (by decide) le),Nat.lt_of_lt_of_le h.d (Nat.pow_le_pow_right (by decide) le)⟩
theorem aoj {n d:Int} {B:Nat} (h:0 < d) (h1:n.natAbs < 2 ^ B) (h2:d.natAbs < 2 ^ B):Nb B (Rat.divInt n d):=by
  have g:=akX (n:=n) h
  refine ⟨?_,?_⟩
  · rw [aky h]
    have dv:gcI n d ∣ n:=by
      show ((Nat.gcd n.natAbs d.natAbs:Nat):Int) ∣ n
      exact Int.gcd_dvd_left n d
    rw [Int.natAbs_ediv_of_dvd dv]
    exact Nat.lt_of_le_of_lt (Nat.div_le_self _ _) h1
  · have e:=akz (n:=n) h
    have:(Rat.divInt n d).den<=d.natAbs:=by
      have l:d / gcI n d<=d:=Int.ediv_le_self _ (by omega)
      omega
    exact Nat.lt_of_le_of_lt this h2
theorem aks {p q:Rat} {B C:Nat} (hp:Nb B p) (hq:Nb C q):Nb (B + C + 1) (p + q):=by
  rw [<- agQ]
  have e:2 ^ (B + C + 1)=2 ^ B * 2 ^ C + 2 ^ B * 2 ^ C:=by rw [Nat.pow_succ,Nat.pow_add];omega
  refine aoj (Int.mul_pos (den_pos p) (den_pos q)) ?_ ?_
  · have a1:(p.num * (q.den:Int)).natAbs < 2 ^ B * 2 ^ C:=by rw [Int.natAbs_mul];exact Nat.mul_lt_mul'' hp.n (by simpa using hq.d)
    have a2:(q.num * (p.den:Int)).natAbs < 2 ^ B * 2 ^ C:=by rw [Int.natAbs_mul,Nat.mul_comm];exact Nat.mul_lt_mul'' (by simpa using hp.d) hq.n
    rw [e]
    exact Nat.lt_of_le_of_lt (Int.natAbs_add_le _ _) (by omega)
  · have a1:((p.den:Int) * (q.den:Int)).natAbs < 2 ^ B * 2 ^ C:=by rw [Int.natAbs_mul];exact Nat.mul_lt_mul'' (by simpa using hp.d) (by simpa using hq.d)
    rw [e];omega
def kindD (d:D):Bool:=(tyD d).isSome
def wholeD:D->Bool
  | .int _=>true
  | _=>false
def numD (lo hi:Int):D->Bool
  | .int i=>decide (lo<=i) && decide (i<=hi)
  | _=>false
def ratioD:D->Bool
  | .tup [.int a,.int b]=>decide (1<=b) && decide (gcI a b=1)
  | _=>false
theorem aew {ds:List D} (h:ds.length≠2):ratioD (.tup ds)=false:=by
  unfold ratioD
  split
  · rename_i e;cases e;exact absurd rfl h
  · rfl
def pairK:D->Prop
  | .tup [a,b]=>kindD a=true/\kindD b=true
  | .kt _=>False
  | _=>True
def ratOf:D->Option Rat
  | .int i=>some (i:Rat)
  | .tup [.int a,.int b]=>if 1<=b/\gcI a b=1 then some (Rat.divInt a b) else none
  | _=>none
theorem akc (q:Rat):ratioD (rD q)=true:=by
  have h:=q.reduced
  have h0:=den_pos q
  show (decide ((1:Int)<=q.den) && decide (gcI q.num q.den=1))=true
  have e:gcI q.num q.den=1:=by
    unfold gcI
    have:Nat.gcd q.num.natAbs (q.den:Int).natAbs=1:=by simpa using h
    rw [this];rfl
  rw [e]
  have:(1:Int)<=q.den:=by omega
  simp [this]
theorem aiS (q:Rat):ratOf (rD q)=some q:=by
  have h:=akc q
  have h2:(decide ((1:Int)<=q.den) && decide (gcI q.num q.den=1))=true:=h
  rw [Bool.and_eq_true,decide_eq_true_eq,decide_eq_true_eq] at h2
  show (if 1<=(q.den:Int)/\gcI q.num q.den=1 then some (Rat.divInt q.num q.den) else none)=some q
  rw [if_pos h2,aff]
theorem aoa {a b:Int} (h1:1<=b) (h2:gcI a b=1):rD (Rat.divInt a b)=rt a b:=by
  rw [akd (by omega),h2,Int.ediv_one,Int.ediv_one]
theorem ajR (a b:Int):SeqAt.shaped (.tuple [.int a,.int b])=true:=by simp [SeqAt.shaped,PyData.canLay0,PyData.canLayAll0,PyData.depth,PyData.depthAll]
theorem ann {n:Bool} {p q:Rat} {Q:DV->Prop} (h:Q (.d (.bl (if n then !decide (p=q) else decide (p=q))))):eqR n (.d (rD p)) (.d (rD q)) Q:=by
  refine l_eqD (d:=rD p) (e:=rD q) (p:=.tuple [.int p.num,.int p.den]) (p':=.tuple [.int q.num,.int q.den]) rfl rfl rfl rfl (ajR _ _) (ajR _ _) (.inr (.inl ⟨_,rfl⟩)) ?_
  have e:PyData.eqv (.tuple [.int p.num,.int p.den]) (.tuple [.int q.num,.int q.den])=decide (p=q):=by
    simp only [PyData.eqv,PyData.eqvAll,Bool.and_true]
    rw [Bool.eq_iff_iff]
    simp only [Bool.and_eq_true,beq_iff_eq,decide_eq_true_eq]
    constructor
    · rintro ⟨h1,h2⟩
      exact Rat.ext h1 (by exact_mod_cast h2)
    · rintro rfl;exact ⟨rfl,rfl⟩
  rw [e];exact h
theorem ai7 (f:D->D):∀ (n:Nat) (lo:Int),(intsFrom lo n).map f=(List.range n).map fun (i:Nat)=>f (.int (lo + (i:Int)))
  | 0,_=>rfl
  | n + 1,lo=>by
    show f (.int lo)::(intsFrom (lo + 1) n).map f=_
    rw [ai7 f n (lo + 1),List.range_succ_eq_map,List.map_cons,List.map_map]
    congr 1
    · simp
    · apply List.map_congr_left
      intro i _
      show f (.int (lo + 1 + (i:Int)))=f (.int (lo + ((i + 1:Nat):Int)))
      congr 2
      omega
theorem ab6 {d:D}:∀ {n:Nat} {lo:Int},d∈intsFrom lo n->∃ i:Nat,i < n/\d=.int (lo + (i:Int))
  | 0,_,h=>by cases h
  | n + 1,lo,h=>by
    rcases List.mem_cons.mp (show d∈D.int lo::intsFrom (lo + 1) n from h) with e | e
    · exact ⟨0,by omega,by rw [e];simp⟩
    · obtain ⟨i,h1,h2⟩:=ab6 e
      exact ⟨i + 1,by omega,by rw [h2];congr 1;omega⟩
theorem agH {α:Type} {f:α->D} {xs:List α} {i:Nat} {x:α} (h:xs[i]?=some x):atI (xs.map f) (i:Int)=some (f x):=by
  have hi:i < xs.length:=(List.getElem?_eq_some_iff.mp h).1
  unfold atI ixN
  rw [if_pos (by omega),if_pos (by rw [List.length_map];omega),Int.toNat_natCast]
  show (List.map f xs)[i]?=_
  rw [List.getElem?_map,h]
  rfl
section
variable {prog:Program} {w:World} {A:Around} {E:Value->Shared->Prop} {s:Shared} {K:PySem.W.Frag} {C x t:Addr} {name:Str} {v:Value} {B:String} {bmB:List Value} {Q:Unit->Shared->Prop}
structure StK (K:PySem.W.Frag) (C:Addr) (bmB:List Value):Prop where
  sa:PySem.W.findIn K (.ref C) "__setattr__"=some (some (.builtin "object.__setattr__"))
  ov:PySem.W.excOver K C bmB=true
  hd:PySem.W.hasDictIn K C=true
theorem ajV (SF:PySem.StoreFacts B bmB "object.__setattr__" "object") (X:K.In s.heap) (T:StK K C bmB) (hx:s.heap.get? x=some (PySem.W.excObj C t none .none)) (ht:PySem.W.takerIn K C name=some none)
    (h:∀ h' tk dx,(∀ b o,b≠x->s.heap.get? b=some o->h'.get? b=some o)->s.heap.get? dx=none->h'.get? x=some (PySem.W.excObj C t (some dx) .none)->h'.Ns1 dx (fun y=>if y=name then some v else none)->Q () { s with heap:=h',toks:=tk }) :
    wpAny (model prog w) A (setAttr (.ref x) name v) Q E s:=by
  have I:PySem.W.InstAt s.heap x (PySem.W.excObj C t none .none) C none:=⟨hx,rfl,rfl,trivial⟩
  refine PySem.W.set_plain X I T.sa (PySem.W.osa_openX (s:={ s with toks:=s.toks + 1 }) SF X I T.ov ht fun b=>?_)
  obtain ⟨cd,hc,hd⟩:=PySem.W.any_some T.hd
  refine wpAny_bind (wpAny_pure (wpAny_bind (PySem.W.instanceDict_exc (s:={ s with toks:=s.toks + 1 }) hx (PySem.W.looks_clsIn X hc) hd ?_)))
  show wpAny _ _ (Builtin.ObjectAttr.storeInDict s.heap.objs.size _ name v) _ _ _
  have lt:=Heap.lt_size hx
  refine HandSPX.store_in_new ⟨_,#[],_,(Heap.get?_update_ne _ _ _ _ (Nat.ne_of_gt lt)).trans (Heap.get?_push_at rfl rfl),rfl,fun e he=>absurd he (by simp),fun _=>rfl⟩ fun h' tk hn hs=>?_
  refine h h' tk s.heap.objs.size (fun b o hb ho=>?_) (Heap.get?_none_of_le (Nat.le_refl _)) ?_ hn
  · exact (hs.2 b (Nat.ne_of_lt (Heap.lt_size ho))).trans ((Heap.get?_update_ne _ _ _ _ hb).trans (Heap.get?_push_of_some _ ho))
  · refine (hs.2 x (Nat.ne_of_lt lt)).trans ?_
    exact Heap.get?_update_self _ (Heap.get?_push_of_some _ hx) rfl
theorem alx {dx:Addr} {m0:Str->Option Value} {nl:List Str} (SF:PySem.StoreFacts B bmB "object.__setattr__" "object") (X:K.In s.heap) (T:StK K C bmB) (hx:s.heap.get? x=some (PySem.W.excObj C t (some dx) .none)) (ht:PySem.W.takerIn K C name=some none)
    (hn:s.heap.Ns1 dx m0) (hw:Within m0 nl) (hz:nl.length<=1000)
    (h:∀ h' tk,(∀ b o,b≠dx->s.heap.get? b=some o->h'.get? b=some o)->h'.Ns1 dx (fun y=>if y=name then some v else m0 y)->Q () { s with heap:=h',toks:=tk }) :
    wpAny (model prog w) A (setAttr (.ref x) name v) Q E s:=by
  obtain ⟨oD,_,_,hoD,_,_⟩:=hn.count hw
  have I:PySem.W.InstAt s.heap x (PySem.W.excObj C t (some dx) .none) C (some oD):=⟨hx,rfl,rfl,hoD⟩
  refine PySem.W.set_plain X I T.sa (PySem.W.osa_openX (s:={ s with toks:=s.toks + 1 }) SF X I T.ov ht fun b=>?_)
  obtain ⟨cd,hc,hd⟩:=PySem.W.any_some T.hd
  refine wpAny_bind (wpAny_pure (wpAny_bind (wpAny_bind (wpAny_loadPart hx (wpAny_bind (PySem.W.Looks.here (s:={ s with toks:=s.toks + 1 }) (PySem.W.looks_clsIn X hc) ?_))))))
  rw [hd]
  refine wpAny_pure (a:=some dx) ?_
  exact PySem.OEX.store_in_old hn hw hz fun h' tk hn' hs=>h h' tk (fun b o hb ho=>(hs.2 b hb).trans ho) hn'
end
inductive Sts (self:Str):List Stmt->List (Str × (Str ⊕ Str))->Prop
  | nil:Sts self [] []
  | con {f m:Str} {j:Nat} {p1 p2 p3 pos:Pos} {rest:List Stmt} {fs:List (Str × (Str ⊕ Str))} (hs:∀ env,swapsWith (.Constant (.str m) j p3) (some (.Attribute (.Name self p1) f p2)) pos.line env=pure false) (r:Sts self rest fs) :
      Sts self (.Assign [.Attribute (.Name self p1) f p2] (.Constant (.str m) j p3) pos::rest) ((f,.inl m)::fs)
  | var {f x:Str} {p1 p2 p3 pos:Pos} {rest:List Stmt} {fs:List (Str × (Str ⊕ Str))} (hs:∀ env,swapsWith (.Name x p3) (some (.Attribute (.Name self p1) f p2)) pos.line env=pure false) (hd:(x == ("__debug__":Str))=false) (r:Sts self rest fs) :
      Sts self (.Assign [.Attribute (.Name self p1) f p2] (.Name x p3) pos::rest) ((f,.inr x)::fs)
def fldV (val:Str->V):List (Str × (Str ⊕ Str))->List (Str × V)->List (Str × V)
  | [],acc=>acc
  | (f,.inl m)::r,acc=>fldV val r ((f,.str m)::acc)
  | (f,.inr x)::r,acc=>fldV val r ((f,val x)::acc)
structure ExAt (h1:Heap) (C e t:Addr) (fs:List (Str × V)) (s:Shared):Prop where
  keep:∀ b o,b≠e->h1.get? b=some o->s.heap.get? b=some o
  at_:(fs=[]/\s.heap.get? e=some (PySem.W.excObj C t none .none))\/∃ dx mA,h1.get? dx=none/\s.heap.get? e=some (PySem.W.excObj C t (some dx) .none)/\s.heap.Ns1 dx mA/\∀ f,RelO (fs.lookup f) (mA f)
section
variable {prog:Program} {w:World} {A:Around} {E:Value->Shared->Prop} {K:PySem.W.Frag} {C e t L:Addr} {B:String} {bmB:List Value} {h1:Heap} {env:Env} {m:Str->Option Value} {self:Str} {val:Str->V}
theorem aj5 {f:Str} {u:Value} {y:V} {fs:List (Str × V)} {s:Shared} {Q:Unit->Shared->Prop} (SF:PySem.StoreFacts B bmB "object.__setattr__" "object") (T:StK K C bmB) (X:K.In s.heap) (a:ExAt h1 C e t fs s) (e1:∃ o,h1.get? e=some o) (hl:fs.length<=900) (ht:PySem.W.takerIn K C f=some none) (ry:RelV y u)
    (h:∀ h' tk,ExAt h1 C e t ((f,y)::fs) { s with heap:=h',toks:=tk }->Q () { s with heap:=h',toks:=tk }):wpAny (model prog w) A (setAttr (.ref e) f u) Q E s:=by
  rcases a.at_ with ⟨rfl,hx⟩ | ⟨dx,mA,nd,hx,hn,rel⟩
  · refine ajV SF X T hx ht fun h' tk dx k nd hx' hn=>h h' tk ⟨fun b o hb ho=>k b o hb (a.keep b o hb ho),.inr ⟨dx,_,?_,hx',hn,relO_put (fs:=[]) ry fun g=>True.intro⟩⟩
    cases z:h1.get? dx with
    | none=>rfl
    | some o=>
      by_cases q:dx=e
      · subst q;rw [hx] at nd;cases nd
      · rw [a.keep dx o q z] at nd;cases nd
  · refine alx SF X T hx ht hn (within_of rel) (by rw [List.length_map];omega) fun h' tk k hn'=>h h' tk ⟨fun b o hb ho=>k b o (fun z=>?_) (a.keep b o hb ho),.inr ⟨dx,_,nd,k e _ (fun z=>?_) hx,hn',relO_put ry rel⟩⟩
    · rw [z,nd] at ho;cases ho
    · obtain ⟨o,ho⟩:=e1
      rw [z,nd] at ho;cases ho
theorem amW (SF:PySem.StoreFacts B bmB "object.__setattr__" "object") (T:StK K C bmB) (hk:env.scope.kind=.function) (hn:h1.Ns env.locals m) (nL:env.locals≠e) (Kh:K.In h1) (Ke:K.lookup e=none) (e1:∃ o,h1.get? e=some o) (hself:env.kindOf self=some .local) (ms:m self=some (.ref e)) (hsd:(self == ("__debug__":Str))=false) :
    ∀ {body:List Stmt} {fs:List (Str × (Str ⊕ Str))},Sts self body fs->(∀ f∈fs,PySem.W.takerIn K C f.1=some none)->(∀ f∈fs,∀ x,f.2=.inr x->env.kindOf x=some .local/\∃ u,m x=some u/\RelV (val x) u)->
      ∀ {acc:List (Str × V)} {s:Shared} {Q:Flow->Shared->Prop},acc.length + fs.length<=900->ExAt h1 C e t acc s->(∀ h' tk,ExAt h1 C e t (fldV val fs acc) { s with heap:=h',toks:=tk }->Q .next { s with heap:=h',toks:=tk })->
      wpAny (model prog w) A (execs body env) Q E s:=by
  have nsK:∀ {s:Shared} {acc:List (Str × V)},ExAt h1 C e t acc s->s.heap.Ns env.locals m:=fun {s acc} a=>by
    obtain ⟨o,es,ep,e2,r⟩:=hn
    exact ⟨o,es,ep,a.keep _ _ nL e2,r⟩
  have inK:∀ {s:Shared} {acc:List (Str × V)},ExAt h1 C e t acc s->K.In s.heap:=fun {s acc} a b o q=>a.keep b o (fun z=>by subst z;rw [Ke] at q;cases q) (Kh b o q)
  intro body fs st
  induction st with
  | nil=>intro _ _ acc s Q _ a h;exact wpAny_execs_nil (h s.heap s.toks a)
  | @con f m' j p1 p2 p3 pos rest fs hs r ih=>
    intro h1' h2' acc s Q hl a h
    refine wpAny_execs_cons (plainObj_wpAny_Assign_Attribute (Calls.Constant_str ?_) (hs env))
    have a1:ExAt h1 C e t acc { s with toks:=s.toks + 1 }:=⟨a.keep,a.at_⟩
    refine wpAny_Name (wpAny_loadName_local hk hself (nsK a1) ms ?_) hsd
    refine aj5 SF T (inK a1) a1 e1 (by rw [List.length_cons] at hl;omega) (h1' _ (List.mem_cons_self ..)) (y:=.str m') ⟨_,rfl⟩ fun h' tk a2=>?_
    exact ih (fun f hf=>h1' f (List.mem_cons_of_mem _ hf)) (fun f hf=>h2' f (List.mem_cons_of_mem _ hf)) (by rw [List.length_cons] at hl ⊢;omega) a2 fun h'' tk' a3=>h h'' tk' a3
  | @var f x p1 p2 p3 pos rest fs hs hd r ih=>
    intro h1' h2' acc s Q hl a h
    obtain ⟨kx,u,mx,ru⟩:=h2' _ (List.mem_cons_self ..) x rfl
    refine wpAny_execs_cons (plainObj_wpAny_Assign_Attribute (wpAny_Name (wpAny_loadName_local hk kx (nsK a) mx ?_) hd) (hs env))
    refine wpAny_Name (wpAny_loadName_local hk hself (nsK a) ms ?_) hsd
    refine aj5 SF T (inK a) a e1 (by rw [List.length_cons] at hl;omega) (h1' _ (List.mem_cons_self ..)) ru fun h' tk a2=>?_
    exact ih (fun f hf=>h1' f (List.mem_cons_of_mem _ hf)) (fun f hf=>h2' f (List.mem_cons_of_mem _ hf)) (by rw [List.length_cons] at hl ⊢;omega) a2 fun h'' tk' a3=>h h'' tk' a3
end
structure ExBase (B newId initId:String) (bmB:List Value):Prop where
  fb:PySem.ExcBaseFacts B newId initId bmB
  kf:PySem.W.KxsFacts B initId
  sf:PySem.StoreFacts B bmB "object.__setattr__" "object"
structure ExK (K:PySem.W.Frag) (file:Str) (C fI:Addr) (params:Arguments) (body:List Stmt) (scope:Scope) (B newId initId:String) (bmB:List Value):Prop where
  st:StK K C bmB
  q:PySem.W.excInitIn K C bmB newId=true
  hi:PySem.W.findIn K (.ref C) "__init__"=some (some (.ref fI))
  ff:PySem.W.typeIn K (.ref fI)=some (.type "function")
  sup:PySem.W.ks_superIn K C C "__init__"=some (some (.builtin initId))
  sub:PySem.W.subIn K (.ref C) (.type B)=some true
  own:PySem.W.mroIn K C (.ref C)=some true
  exC:PySem.W.subIn K (.ref C) (.type "BaseException")=some true
  tyC:PySem.W.typeIn K (.ref C)=some (.type "type")
  kC:PySem.W.keepIn K (.ref C)=true
  op:PySem.W.nsIn K cStatics "thirdparty.any"=some none
  fn:∃ (oc:Value) (od:Option Addr) (osl:Array (Option Value)) (name qual:Str) (doc pm:Value) (an:Option Addr) (cda cc:Addr) (ct:Value) (vs:Array Value) (tf:Tok) (ccl cl:Value) (cdd cld:Option Addr) (ccs csl:Array (Option Value)),
    K.lookup fI=some ⟨oc,od,.func (PySem.W.ksFn name qual params body scope .none .none doc pm an (.ref cda) ct cc),osl⟩/\PySem.W.codeIn K (.ref cda) qual=true/\K.lookup cda=some ⟨ccl,cdd,.fields vs,ccs⟩/\vs[2]?=some (.str file tf)/\K.lookup cc=some ⟨cl,cld,.cell (some (.ref C)),csl⟩
structure ExT (body:List Stmt) (params:Arguments) (scope:Scope) (sf:Str) (ps:List Str) (fs:List (Str × (Str ⊕ Str))):Prop where
  shape:∃ p0 p1 p2 p3 p4 p5 msg j rest,body=.Expr (.Call (.Attribute (.Call (.Name "super" p0) [] [] p1) "__init__" p2) [.Constant (.str msg) j p3] [] p4) p5::rest/\Sts sf rest fs/\
    (∀ env:Env,∃ pl:Sem Bool,eval (.Call (.Attribute (.Call (.Name "super" p0) [] [] p1) "__init__" p2) [.Constant (.str msg) j p3] [] p4) env=(do
      let ov <- attributeBase (.Call (.Name "super" p0) [] [] p1) "__init__" env (eval (.Call (.Name "super" p0) [] [] p1) env)
      standAt p2.atName
      let (f,first) <- holding [ov] (getMethod ov "__init__" pl)
      callWith p4 f first (backTo p4 (starEach [.Constant (.str msg) j p3] env)) []))/\
    (∀ env:Env,env.scope.kind=.function->interactive env=false)/\∀ env:Env,swapsWith (.Call (.Attribute (.Call (.Name "super" p0) [] [] p1) "__init__" p2) [.Constant (.str msg) j p3] [] p4) none p5.line env=pure false
  head:∃ ar,(params.posonlyargs++params.args).head?=some ar/\ar.arg=sf
  ks:scope.names.lookup ("super":Str)=some .globalImplicit
  kc:scope.names.lookup ("__class__":Str)=some .free
  loc:∀ x∈sf::ps,scope.names.lookup x=some .local
  kind:scope.kind=.function
  co:scope.isCoroutine=false
  gen:scope.isGenerator=false
  cell:∀ x∈scope.names,x.2≠.cell
  flds:∀ f∈fs,∀ x,f.2=.inr x->x∈ps
  nod:(sf::ps).Nodup
  sd:(sf == ("__debug__":Str))=false
  len:fs.length<=900
section
variable {prog:Program} {w:World} {A:Around} {R:Result->Shared->Prop} {s:Shared} {K:PySem.W.Frag} {mg mb:Str->Option Value} {file:Str} {C fI e t:Addr} {params:Arguments} {body:List Stmt} {scope:Scope} {B newId initId:String} {bmB:List Value} {self:Str} {ps:List Str} {fs:List (Str × (Str ⊕ Str))} {us:List Value} {vs:List V} {val:Str->V}
theorem agC:∀ {ps:List Str} {us:List Value} {vs:List V} {x:Str},Vals vs us->vs.length=ps.length->ps.Nodup->x∈ps->∃ u v,(ps.zip us).reverse.lookup x=some u/\(ps.zip vs).lookup x=some v/\RelV v u
  | [],_,_,_,_,_,_,h=>by cases h
  | p::ps,_,_,x,.nil,hl,_,_=>by cases hl
  | p::ps,u::us,v::vs,x,.cons r rs,hl,hn,hx=>by
    rw [List.zip_cons_cons,List.zip_cons_cons,List.reverse_cons,List.lookup_append,List.lookup_cons]
    obtain ⟨np,hn'⟩:=List.nodup_cons.mp hn
    have out:∀ (y:Str),y∉ps->(ps.zip us).reverse.lookup y=none:=fun y hy=>by
      rw [List.lookup_eq_none_iff]
      intro q hq
      have:=(List.of_mem_zip (List.mem_reverse.mp hq)).1
      rw [bne_iff_ne]
      intro z
      exact hy (z ▸ this)
    rcases List.mem_cons.mp hx with rfl | hx
    · rw [out _ np]
      refine ⟨u,v,?_,?_,r⟩
      · simp [List.lookup]
      · simp
    · have ne:(x == p)=false:=by rw [beq_eq_false_iff_ne];intro z;exact np (z ▸ hx)
      obtain ⟨u',v',h1,h2,h3⟩:=agC rs (by simpa using hl) hn' hx
      refine ⟨u',v',?_,?_,h3⟩
      · rw [h1];rfl
      · rw [List.lookup_cons,ne];exact h2
theorem alB (XB:ExBase B newId initId bmB) (EK:ExK K file C fI params body scope B newId initId bmB) (ET:ExT body params scope self ps fs) (X:K.In s.heap) (G:s.heap.Ns mainGlobals mg) (hsu:mg ("super":Str)=none) (Bn:s.heap.Ns builtinsNs mb) (hbn:mb ("super":Str)=some (.type "super")) (lim:s.heap.NoLimit)
    (hfile:((prog.main.file:Str) == file)=true) (htop:(prog.main.scope.names.lookup ("super":Str)).isSome=false) (hroom:A.depth < recursionLimit) (he:s.heap.get? e=some (PySem.W.excObj C t none .none)) (Ke:K.lookup e=none)
    (rv:Vals vs us) (hl:vs.length=ps.length) (hbind:∀ (name qual:Str) (doc pm:Value) (an:Option Addr) (cda ct:Value) (cc:Addr),bindArgs (PySem.W.ksFn name qual params body scope .none .none doc pm an cda ct cc) ⟨.ref e::us,[]⟩=pure ((self::ps).zip (.ref e::us)))
    (ht:∀ f∈fs,PySem.W.takerIn K C f.1=some none)
    (h:∀ h' tk t',ExAt s.heap C e t' (fldV (fun x=>((ps.zip vs).lookup x).getD .non) fs []) { s with heap:=h',toks:=tk }->R (.ok (.ret .none)) { s with heap:=h',toks:=tk }) :
    codeAny (model prog w) A (.call (.ref fI) ⟨.ref e::us,[]⟩) R s:=by
  obtain ⟨oc,od,osl,name,qual,doc,pm,an,cda,cc,ct,cvs,tf,ccl,cl,cdd,cld,ccs,csl,lk,hcd,lkc,hv2,lcc⟩:=EK.fn
  obtain ⟨p0,p1,p2,p3,p4,p5,msg,j,rest,hbd,hst,hev,hint,hsw⟩:=ET.shape
  obtain ⟨ar,har,hself⟩:=ET.head
  have hlen:us.length=ps.length:=by rw [<- rv.length];exact hl
  have hlcl:∀ x∈(self::ps).zip (Value.ref e::us),scope.names.lookup x.1=some .local:=fun x hx=>ET.loc x.1 (List.of_mem_zip hx).1
  refine ks_codeAny_call_defAt (fd:=PySem.W.ksFn name qual params body scope .none .none doc pm an (.ref cda) ct cc) (body:=body) (binds:=(self::ps).zip (Value.ref e::us)) hroom (X _ _ lk) rfl lim (PySem.W.codeRec_of X hcd) rfl (BindsTo.of_eq (hbind _ _ _ _ _ _ _ _)) ET.cell hlcl (fun h1 hns k1=>?_) ET.co ET.gen ET.kind
  have L:Addr:=s.heap.objs.size
  generalize henv:callEnv (PySem.W.ksFn name qual params body scope .none .none doc pm an (.ref cda) ct cc) s.heap.objs.size fI=env at *
  have eloc:env.locals=s.heap.objs.size:=by rw [<- henv];rfl
  have esc:env.scope=scope:=by rw [<- henv];rfl
  have ekd:∀ y,env.kindOf y=scope.names.lookup y:=fun y=>by rw [<- henv];rfl
  have ekf:env.scope.kind=.function:=by rw [esc];exact ET.kind
  have X1:K.In h1:=fun b o q=>k1 b o (X b o q)
  have he1:=k1 _ _ he
  have nL:env.locals≠e:=by rw [eloc];exact Nat.ne_of_gt (Heap.lt_size he)
  rw [<- eloc] at hns
  have all:=rv
  have key:∀ x∈ps,∃ u v,((self::ps).zip (Value.ref e::us)).reverse.lookup x=some u/\(ps.zip vs).lookup x=some v/\RelV v u:=fun x hx=>by
    obtain ⟨u,v,z1,z2,z3⟩:=agC rv hl (List.nodup_cons.mp ET.nod).2 hx
    refine ⟨u,v,?_,z2,z3⟩
    rw [List.zip_cons_cons,List.reverse_cons,List.lookup_append,z1];rfl
  have kself:((self::ps).zip (Value.ref e::us)).reverse.lookup self=some (.ref e):=by
    rw [List.zip_cons_cons,List.reverse_cons,List.lookup_append]
    have:(ps.zip us).reverse.lookup self=none:=by
      rw [List.lookup_eq_none_iff]
      intro q hq
      have:=(List.of_mem_zip (List.mem_reverse.mp hq)).1
      rw [bne_iff_ne]
      intro z
      exact (List.nodup_cons.mp ET.nod).1 (z ▸ this)
    rw [this];simp [List.lookup]
  rw [hbd]
  obtain ⟨pl,hpl⟩:=hev env
  refine ks_wpAt_execs_cons (ks_wpAt_Expr_any (ks_wpAt_MethodCall ?_ hpl) (hint env ekf) (hsw env))
  refine ks_wpAt_super_base (ar:=ar) ((ekd _).trans ET.ks) ((ekd _).trans ET.kc) (by decide) (f:=fI) (by rw [<- henv];rfl) (X1 _ _ lk) rfl har (cc:=cda) (by rw [<- henv];rfl) (X1 _ _ lkc) rfl hv2 hfile htop ?_
  obtain ⟨cd,hcdC,hdC⟩:=PySem.W.any_some EK.st.hd
  obtain ⟨oD,hD1,hD2⟩:∃ oD,h1.get? C=some oD/\oD.data=.cls cd:=by
    unfold PySem.W.clsIn at hcdC
    split at hcdC
    · rename_i c d cd' sl ho
      cases hcdC
      exact ⟨_,X1 _ _ ho,rfl⟩
    · cases hcdC
  have G1:h1.Ns mainGlobals mg:=by obtain ⟨o,es,ep,e2,r⟩:=G;exact ⟨o,es,ep,k1 _ _ e2,r⟩
  have B1:h1.Ns builtinsNs mb:=by obtain ⟨o,es,ep,e2,r⟩:=Bn;exact ⟨o,es,ep,k1 _ _ e2,r⟩
  have I1:PySem.W.InstAt h1 e (PySem.W.excObj C t none .none) C none:=⟨he1,rfl,rfl,trivial⟩
  have hneC:e≠C:=PySem.W.ks_ne X1 I1 hcdC
  refine PySem.W.ks_loadName_global ekf ((ekd _).trans ET.ks) (Calls.loadGlobal_builtin (by rw [<- henv];exact G1) hsu (by rw [<- henv];exact B1) hbn ⟨rfl,?_⟩)
  refine wpAny_loadName_free ekf ((ekd _).trans ET.kc) (c:=cc) (by rw [<- henv];rfl) ⟨_,X1 _ _ lcc,rfl⟩ ?_
  rw [hself]
  refine wpAny_loadName_local ekf ((ekd _).trans (ET.loc _ (List.mem_cons_self ..))) hns kself ?_
  refine ks_wpAny_isType_cls hD1 hD2 ⟨rfl,?_⟩
  refine ks_wpAny_call_super hD1 hD2 he1 rfl (fun c z=>by cases z) (PySem.W.looks_mroIn X1 EK.own) (fun h2 so2 k2=>?_)
  have X2:K.In h2:=fun b o q=>k2 b o (X1 b o q)
  have he2:=k2 _ _ he1
  have I2:PySem.W.InstAt h2 e (PySem.W.excObj C t none .none) C none:=⟨he2,rfl,rfl,trivial⟩
  have hsup:=EK.sup
  unfold PySem.W.ks_superIn at hsup
  rw [hcdC] at hsup
  refine PySem.W.kxs_getMethod XB.kf so2 (PySem.W.looks_opaque X2 EK.op) (l₀:=cd.mro) (fun A Q E s k q=>wpAny_bind ((PySem.W.looks_clsIn X2 hcdC) A _ E s k (wpAny_pure q))) rfl X2 hsup (I2.type.andThen (PySem.W.looks_subIn X2 EK.sub)) hneC (by decide) ?_
  generalize hu:h2.objs.size=u
  have hu3:(h2.push (PySem.W.kxs_mw initId e)).get? u=some (PySem.W.kxs_mw initId e):=by rw [<- hu];exact Heap.get?_push_at rfl rfl
  have k3:∀ b o,h2.get? b=some o->(h2.push (PySem.W.kxs_mw initId e)).get? b=some o:=fun b o q=>Heap.get?_push_of_some _ q
  refine PySem.W.kxs_callWith (i:=initId) (x:=e) rfl (Calls.evalArgs_plain (Calls.spliced_cons (Calls.Constant_str (k:=j) (pos:=p3) (Calls.spliced_nil ⟨hu3,?_⟩))))
  obtain ⟨nm,N',qn,bs,bm,hdct,sn,sub,ab,col,dd,k0,k1',k2',k3',k5,hC,hT⟩:=PySem.W.excInit_of (X:=(fun b o q=>k3 b o (X2 b o q):K.In (h2.push (PySem.W.kxs_mw initId e)))) EK.q
  refine wpAny_call (codeAny_of_tree ?_)
  show wpAny _ _ (callAny (.ref u) _) _ _ _
  simp only [callAny]
  refine wpAny_bind (wpAny_load hu3 ?_)
  simp only [PySem.W.kxs_mw,show (Value.type "method-wrapper" == Value.type "method" || Value.type "method-wrapper" == Value.type "builtin_function_or_method" || Value.type "method-wrapper" == Value.type "method-wrapper")=true by decide,if_true]
  refine PySem.W.KFB.if_so (by decide) ?_
  refine wpAny_bind (PySem.W.check_bound_init XB.fb.toExcCallFacts hC (k3 _ _ he2) rfl ?_)
  refine wpAny_bind (wpAny_pure (wpAny_pure ?_))
  refine ⟨plainId_quiet XB.fb.init.plain _,codeAny_builtin XB.fb.initEntry ?_⟩
  refine PySem.W.exc_init_tree (cls:=.ref C) (t0:=t) (dv:=none) (c2:=.none) (c3:=.none) (b4:=.bool false) (k3 _ _ he2) (by show 1<=sizeLine;decide) fun h4 k4 e4 t4=>?_
  have kk:∀ b o,b≠e->h1.get? b=some o->h4.get? b=some o:=fun b o hb q=>k4 b o hb (k3 b o (k2 b o q))
  show PySem.wpAt _ _ _ (execs rest env) _ _ _
  refine PySem.wpAt_of_wpAny ?_
  have hst1:∀ (s5:Shared),s5.heap=h4->ExAt h1 C e (h2.push (PySem.W.kxs_mw initId e)).objs.size [] s5:=fun s5 z=>⟨fun b o hb q=>by rw [z];exact kk b o hb q,.inl ⟨rfl,by rw [z];exact e4⟩⟩
  refine amW (h1:=h1) (K:=K) (C:=C) (e:=e) (m:=fun x=>((self::ps).zip (Value.ref e::us)).reverse.lookup x) (val:=fun x=>((ps.zip vs).lookup x).getD .non) XB.sf EK.st ekf hns nL X1 Ke ⟨_,he1⟩ ((ekd _).trans (ET.loc _ (List.mem_cons_self ..))) kself ET.sd hst ht (fun f hf x hx=>?_) (by rw [List.length_nil,Nat.zero_add];exact ET.len) (hst1 _ rfl) (fun h5 tk a=>?_)
  · have hxp:=ET.flds f hf x hx
    obtain ⟨u',v',z1,z2,z3⟩:=key x hxp
    exact ⟨(ekd _).trans (ET.loc _ (List.mem_cons_of_mem _ hxp)),u',z1,by rw [z2];exact z3⟩
  · refine h h5 tk (h2.push (PySem.W.kxs_mw initId e)).objs.size ⟨fun b o hb q=>a.keep b o hb (k1 b o q),?_⟩
    rcases a.at_ with z | ⟨dx,mA,z1,z2⟩
    · exact .inl z
    · refine .inr ⟨dx,mA,?_,z2⟩
      cases q:s.heap.get? dx with
      | none=>rfl
      | some o=>rw [k1 dx o q] at z1;cases z1
end
section
variable {X:Cx} {file:Str} {C fI:Addr} {params:Arguments} {body:List Stmt} {scope:Scope} {B newId initId:String} {bmB:List Value} {self:Str} {ps:List Str} {fs:List (Str × (Str ⊕ Str))} {x:Str} {p pos:Pos} {e:Expr} {es:List Expr} {ta:TA}
def xdV (ps:List Str) (fs:List (Str × (Str ⊕ Str))) (vs:List V):List (Str × V):=fldV (fun x=>((ps.zip vs).lookup x).getD .non) fs []
theorem aoo {pins:List (Addr × Obj)} {σ:L2.St} {H1:Hp} {s1:Shared} {us:List Value} {vs:List V} {Q:XK} (XB:ExBase B newId initId bmB) (EK:ExK X.K file C fI params body scope B newId initId bmB) (ET:ExT body params scope self ps fs)
    (hfile:((X.prog.main.file:Str) == file)=true) (htop:(X.prog.main.scope.names.lookup ("super":Str)).isSome=false) (hsu:X.mg ("super":Str)=none)
    (hbind:∀ (e:Addr) (us:List Value),us.length=ps.length->∀ (name qual:Str) (doc pm:Value) (an:Option Addr) (cda ct:Value) (cc:Addr),bindArgs (PySem.W.ksFn name qual params body scope .none .none doc pm an cda ct cc) ⟨.ref e::us,[]⟩=pure ((self::ps).zip (.ref e::us)))
    (ht:∀ f∈fs,PySem.W.takerIn X.K C f.1=some none) (hne:∀ vs,xdV ps fs vs≠[]) (hr:Room 2 X.A) (I1:Inv X pins σ H1 s1) (rv:Vals vs us) (hl:vs.length=ps.length) (hl2:vs.length<=1000) (q:∀ d,H1 d=none->Q (.ref C) (some d) (upd H1 d (.xd (xdV ps fs vs)))) :
    wpAny (model X.prog X.w) X.A (call (.ref C) us) (L2N.MkP X pins σ Q) X.xe s1:=by
  obtain ⟨nm,N',qn,bs,bm,hdct,sn,sub,ab,col,dd,k0,k1,k2,k3,k5,hC,hT⟩:=PySem.W.excInit_of I1.kIn EK.q
  obtain ⟨hp,g,dr,tk,os⟩:=s1
  have hus:us.length<=sizeLine:=by rw [<- rv.length,sizeLine_eq];omega
  obtain ⟨oI,hoI,hcI⟩:∃ oI,hp.get? fI=some oI/\oI.cls=.type "function":=by
    obtain ⟨o,ho,hc⟩:=Option.map_eq_some_iff.mp (show (X.K.lookup fI).map (·.cls)=some (.type "function") from EK.ff)
    exact ⟨o,I1.kIn _ _ ho,hc⟩
  refine wpAny_call (PySem.HandSPX.call_own XB.fb hT hC (PySem.W.looks_findIn I1.kIn EK.hi) (fun self=>PySem.W.exc_bind hoI hcI self) hus ?_)
  have kk:∀ b o,hp.get? b=some o->((hp.push (PySem.W.kdv_tup us)).push (PySem.HandSPX.excO C hp.objs.size)).get? b=some o:=fun b o e=>Heap.get?_push_of_some _ (Heap.get?_push_of_some _ e)
  have hget:((hp.push (PySem.W.kdv_tup us)).push (PySem.HandSPX.excO C hp.objs.size)).get? (hp.objs.size + 1)=some (PySem.W.excObj C hp.objs.size none .none):=by heap_get
  have lt:∀ {b:Addr} {o:Obj},hp.get? b=some o->b≠hp.objs.size + 1:=fun {b o} z=>Nat.ne_of_lt (Nat.lt_succ_of_lt (Heap.lt_size z))
  have Ke:X.K.lookup (hp.objs.size + 1)=none:=by
    cases z:X.K.lookup (hp.objs.size + 1) with
    | none=>rfl
    | some o=>exact absurd rfl (lt (I1.kIn _ _ z))
  generalize hh2:(hp.push (PySem.W.kdv_tup us)).push (PySem.HandSPX.excO C hp.objs.size)=h2 at *
  have KM:=I1.ok.mod
  obtain ⟨mb,nb,hbb⟩:=KM.blt
  have bk:∀ b o,X.base.get? b=some o->h2.get? b=some o:=fun b o z=>kk b o (I1.bk b o z)
  have nsb:∀ {b:Addr} {m:Str->Option Value},X.base.Ns b m->h2.Ns b m:=fun {b m} ⟨o,es,ep,e2,r⟩=>⟨o,es,ep,bk _ _ e2,r⟩
  have lim:h2.NoLimit:=by obtain ⟨mc,n1,n2⟩:=KM.nolimit;exact ⟨mc,nsb n1,n2⟩
  refine alB (s:=⟨h2,g,dr,tk,os⟩) (self:=self) (ps:=ps) (fs:=fs) (vs:=vs) (mg:=X.mg) (mb:=mb) XB EK ET (fun b o z=>bk b o (KM.kin b o z)) (nsb KM.glob) hsu (nsb nb) ((hbb _ (by decide)).trans PyProof.Rows.Boot.«super») lim hfile htop (hr.make C us []).depth hget Ke rv hl (hbind _ _ (by rw [<- rv.length];exact hl)) ht fun h' tk' t' a=>?_
  obtain ⟨ak,z | ⟨dx,mA,nd,hx,hn,rel⟩⟩:=a
  · exact absurd z.1 (hne vs)
  refine ⟨rfl,?_⟩
  have nd1:hp.get? dx=none:=by
    cases z:hp.get? dx with
    | none=>rfl
    | some o=>rw [kk dx o z] at nd;cases nd
  have dne:dx≠hp.objs.size + 1:=fun z=>by rw [z,hget] at nd;cases nd
  obtain ⟨G,g1,g2⟩:=restrict h' fun b=>decide (b≠hp.objs.size + 1)
  have gk:∀ b,b≠hp.objs.size + 1->G.get? b=h'.get? b:=fun b hb=>g1 b (decide_eq_true hb)
  have ge:G.get? (hp.objs.size + 1)=none:=g2 _ (by simp)
  have nH:H1 dx=none:=I1.hok.gone nd1
  have J:Inv X pins σ (upd H1 dx (.xd (xdV ps fs vs))) ⟨G,g,dr,tk',os⟩:=
    Inv.laidN (h':=G) (t':=tk') I1 (fun b o z=>by rw [gk b (lt z)];exact ak b o (lt z) (kk b o z)) nd1 nH ⟨mA,hn.at fun o y=>(gk dx dne).trans y,rel⟩
  refine ⟨hp.objs.size + 1,_,_,⟨G,g,dr,tk',os⟩,_,.ref C,some dx,rfl,J,fun b o z=>?_,ge,hx,⟨rfl,rfl,fun vs z=>by cases z;rfl⟩,rfl,rfl,?_,rfl,J.bare,raises_own EK.exC EK.tyC,q dx nH⟩
  · by_cases hb:b=hp.objs.size + 1
    · rw [hb,ge] at z;cases z
    · exact (gk b hb).symm.trans z
  · rw [upd_ne (Ne.symm dne)]
    exact I1.hok.fresh (Nat.le_succ _)
end
section
variable {K:PySem.W.Frag} {G G1:Hp} {so:So} {σ:L2.St} {H H1:Hp} {sl s1:DSt}
theorem Post.alloc {d:Addr} {o:HO} (p:Post K G so σ H sl H1 G1 s1) (n:H1 d=none) (nt:∀ xs,o≠.tup xs:=by intro _ z;cases z):Post K G so σ H sl (upd H1 d o) G1 s1:=by
  have pv:PostV K G1 so H1 .non (upd H1 d o) G1 (.d .non):=⟨Ex.refl G1,p.rep.h.alloc n nt,fun _ _ e _=>Ex.new n _ _ e,fun _ _ g _=>g,.non,fun _ _ e=>(nomatch e),fun _ e=>(nomatch e)⟩
  exact p.trans (pv.slots p.rep).toPost
end
def fldD (val:Str->D):List (Str × (Str ⊕ Str))->List (Str × D)->List (Str × D)
  | [],acc=>acc
  | (f,.inl m)::r,acc=>fldD val r ((f,.str m)::acc)
  | (f,.inr x)::r,acc=>fldD val r ((f,val x)::acc)
def xdD (ps:List Str) (fs:List (Str × (Str ⊕ Str))) (xs:List D):List (Str × D):=fldD (fun x=>((ps.zip xs).lookup x).getD .non) fs []
theorem aiv {K:PySem.W.Frag} {G:Hp} {val:Str->V} {vd:Str->D} (hv:∀ x,DOk K G (val x) (vd x)):∀ (fs:List (Str × (Str ⊕ Str))) {a:List (Str × V)} {b:List (Str × D)},FAll K G a b->FAll K G (fldV val fs a) (fldD vd fs b)
  | [],_,_,h=>h
  | (f,.inl m)::r,_,_,h=>aiv hv r (.cons (.str m) h)
  | (f,.inr x)::r,_,_,h=>aiv hv r (.cons (hv x) h)
theorem al9 {K:PySem.W.Frag} {G:Hp} (x:Str):∀ {ps:List Str} {vs:List V} {xs:List D},DAll K G vs xs->DOk K G (((ps.zip vs).lookup x).getD .non) (((ps.zip xs).lookup x).getD .non)
  | [],_,_,_=>.non
  | _::_,_,_,.nil=>.non
  | p::ps,_,_,.cons h t=>by
    rw [List.zip_cons_cons,List.zip_cons_cons,List.lookup_cons,List.lookup_cons]
    cases x == p with
    | true=>exact h
    | false=>exact al9 x t
theorem anV {K:PySem.W.Frag} {G:Hp} {ps:List Str} {fs:List (Str × (Str ⊕ Str))} {vs:List V} {xs:List D} (h:DAll K G vs xs):FAll K G (xdV ps fs vs) (xdD ps fs xs):=aiv (fun x=>al9 x h) fs .nil
structure XCls (P:Program) (K:PySem.W.Frag) (mg:Str->Option Value) (C:Addr) (ps:List Str) (fs:List (Str × (Str ⊕ Str))):Prop where
  how:∃ file fI params body scope B newId initId bmB self,ExBase B newId initId bmB/\ExK K file C fI params body scope B newId initId bmB/\ExT body params scope self ps fs/\((P.main.file:Str) == file)=true/\(P.main.scope.names.lookup ("super":Str)).isSome=false/\
    (∀ (e:Addr) (us:List Value),us.length=ps.length->∀ (name qual:Str) (doc pm:Value) (an:Option Addr) (cda ct:Value) (cc:Addr),bindArgs (PySem.W.ksFn name qual params body scope .none .none doc pm an cda ct cc) ⟨.ref e::us,[]⟩=pure ((self::ps).zip (.ref e::us)))
  ht:∀ f∈fs,PySem.W.takerIn K C f.1=some none
  ne:∀ vs,xdV ps fs vs≠[]
  su:mg ("super":Str)=none
  kC:PySem.W.keepIn K (.ref C)=true
  ln:ps.length<=1000
def dRaise (C:Addr) (ps:List Str) (fs:List (Str × (Str ⊕ Str))) (ta:TDA):TDS:=fun E sl=>ta sl (fun ds s1=>match dats ds with
  | some xs=>xs.length=ps.length/\E.xc (.ref C) (xdD ps fs xs) s1
  | none=>False) E.xc
section
variable {X:Cx} {W:WX} {C:Addr} {ps:List Str} {fs:List (Str × (Str ⊕ Str))} {x:Str} {p pos rpos:Pos} {e:Expr} {es:List Expr} {ta:TDA} {tA:TA}
theorem XCls.make (T:XCls X.prog X.K X.mg C ps fs) (hr:Room 2 X.A) {pins:List (Addr × Obj)} {σ:L2.St} {H1:Hp} {s1:Shared} {us:List Value} {vs:List V} {Q:XK} (I1:Inv X pins σ H1 s1) (rv:Vals vs us) (hl:vs.length=ps.length)
    (q:∀ d,H1 d=none->Q (.ref C) (some d) (upd H1 d (.xd (xdV ps fs vs)))):wpAny (model X.prog X.w) X.A (call (.ref C) us) (L2N.MkP X pins σ Q) X.xe s1:=by
  obtain ⟨file,fI,params,body,scope,B,n1,n2,bmB,self,z1,z2,z3,z4,z5,z6⟩:=T.how
  exact aoo z1 z2 z3 z4 z5 T.su z6 T.ht T.ne hr I1 rv hl (by rw [hl];exact T.ln) q
def tMkX (C:Addr) (ps:List Str) (fs:List (Str × (Str ⊕ Str))) (tA:TA):L2.St->Hp->XK->Prop:=fun σ H Q=>tA σ H fun vs H1=>vs.length=ps.length/\∀ d,H1 d=none->Q (.ref C) (some d) (upd H1 d (.xd (xdV ps fs vs)))
theorem pmk_x (T:XCls X.prog X.K X.mg C ps fs) (hr:Room 2 X.A) (hg:Gl X x) (hm:X.mg x=some (.ref C)) (ha:PA X (e::es) tA) (hdb:(x == ("__debug__":Str))=false:=by decide) (he:starEach (e::es) X.env=(false,eval e X.env)::starEach es X.env:=by rfl) (hpl:(backTo pos (starEach es X.env)).any (·.1)=false:=by rfl) :
    L2N.PMk X (.Call (.Name x p) (e::es) [] pos) (tMkX C ps fs tA):=by
  intro pins s σ H Q I h
  refine wpAny_Call_Name_kw (ld_glob I hg hm ?_ hdb)
  exact PySem.W.callWith_K (h₀:=X.base) I.ok.mod.kin T.kC (thn (ha.run pos pins s σ H _ I h) fun us s1 ⟨vs,H1,I1,r1,hl,q⟩=>⟨I1.kIn,T.make hr I1 r1 hl q⟩) he hpl
theorem alp {K:PySem.W.Frag} {D:Ends} {σ:L2.St} {H:Hp} (h:upS K W (dRaise C ps fs ta) D σ H):tMkX C ps fs (upA K W ta) σ H fun cls d H'=>W cls d σ H':=by
  obtain ⟨G,so,sl,E,rep,q,ok⟩:=h
  refine ⟨G,so,sl,_,E.xc,rep,q,fun vs H1 G1 ds s1 p w q1=>?_,ok.xc.ex⟩
  split at q1
  · rename_i xs ed
    have al:=afm w ed
    refine ⟨al.length.trans q1.1,fun d nd=>?_⟩
    exact ok.xc (.ref C) (some d) σ _ G1 _ s1 (p.alloc nd).s ⟨_,upd_same,anV al⟩ q1.2
  · exact q1.elim
theorem acG (hc:X.calm=true) (tk:L2N.Takes X W) (T:XCls X.prog X.K X.mg C ps fs) (hr:Room 2 X.A) (hg:Gl X x) (hm:X.mg x=some (.ref C)) (ha:DA X W (e::es) ta) (hdb:(x == ("__debug__":Str))=false:=by decide) (he:starEach (e::es) X.env=(false,eval e X.env)::starEach es X.env:=by rfl) (hpl:(backTo pos (starEach es X.env)).any (·.1)=false:=by rfl) :
    DS X W (.Raise (some (.Call (.Name x p) (e::es) [] pos)) none rpos) (dRaise C ps fs ta):=adu (L2N.ps_raise hc tk (pmk_x T hr hg hm ha hdb he hpl)) fun D σ H h=>alp h
end
theorem alU {B h h':Heap} {l:List Env} {a:Addr} {Z:Obj->Prop} (k:∀ b o,h.get? b=some o->h'.get? b=some o) (f:HandSPX.FlyingZ B l a Z h):HandSPX.FlyingZ B l a Z h':=by
  obtain ⟨f1,f2,f3,oe,vs,T,oT,ts,e1,e2,e3,e4,e5,e6,e7,e8⟩:=f
  exact ⟨fun b o q=>k b o (f1 b o q),f2,Heap.FunFrames.of_keeps (fun b o q _=>⟨o,k b o q,rfl⟩) f3,oe,vs,T,oT,ts,k _ _ e1,e2,e3,e4,e5,e6,k _ _ e7,e8⟩
def wAs3 (K:PySem.W.Frag) (cs:List Value) (i:Nat) (ts:Addr->Value->Option Addr->TS) (Wout:WX) (D:Ends):WX:=fun cls d σ H=>
  ∃ b,PySem.W.exmAny K cls cs=some b/\(b=true->∀ a,H a=none->ts a cls d { nx:=fun σ' H'=>D.nx (σ'.set i none) H',rt:=D.rt,bk:=fun σ' H'=>D.bk (σ'.set i none) H',ct:=fun σ' H'=>D.ct (σ'.set i none) H' } (σ.set i (some (.ref a))) H)/\(b=false->Wout cls d σ H)
section
variable {X:Cx} {x1 x2 x3 n:Str} {c1 c2 c3:Value} {i k:Nat} {body suite:List Stmt} {b0:Stmt} {q1 q2 q3 tp pos pos':Pos} {tb:WX->TS} {ts:Addr->Value->Option Addr->TS} {Wout:WX}
theorem aol {Y:Cx} {pins:List (Addr × Obj)} {σ:L2.St} {H:Hp} {s:Shared} {Q E:Value->Shared->Prop} (S:Inv Y pins σ H s) (h1:Names Y x1 c1) (h2:Names Y x2 c2) (h3:Names Y x3 c3)
    (q:Q (.ref s.heap.objs.size) { s with heap:=s.heap.push { cls:=.type "tuple",data:=.seq [c1,c2,c3].toArray } }) :
    wpAny (model Y.prog Y.w) Y.A (eval (.Tuple [.Name x1 q1,.Name x2 q2,.Name x3 q3] k tp) Y.env) Q E s:=by
  have one:∀ {x:Str} {c:Value} {p:Pos} {R:Value->Shared->Prop},Names Y x c->R c s->wpAny (model Y.prog Y.w) Y.A (eval (.Name x p) Y.env) R E s:=fun {x c p R} hx r=>by
    obtain ⟨hg,hd,hm | ⟨hm,hv,hn⟩⟩:=hx
    · exact ld_glob S hg hm r hd
    · exact ld_blt S hg hm hv r hn hd
  refine wpAny_Tuple_spliced ?_
  refine Calls.spliced_cons (one h1 (Calls.spliced_cons (one h2 (Calls.spliced_cons (one h3 (Calls.spliced_nil ?_))))))
  exact ⟨by show 3<=sizeLine;decide,q⟩
theorem aju (hs:X.stack=X.env::X.outer) (hf:X.env.frame=some X.env.locals) (hN:X.N.Nodup) (hi:X.N[i]?=some n) (hln:X.env.kindOf n=some .local) (h1:Names X x1 c1) (h2:Names X x2 c2) (h3:Names X x3 c3) (tk:L2N.Takes X Wout)
    (hb:∀ (W:WX) (pn:List (Addr × Obj)) (xe:Value->Shared->Prop),L2N.Takes (X.tr pn xe) W->PassesOwn (model X.prog X.w) X.A X.env xe->PSs (X.tr pn xe) body (tb W))
    (hsu:∀ (a:Addr) (oe:Obj) (cls:Value) (d:Option Addr) (pn:List (Addr × Obj)),L2N.Zn cls d oe->(∃ vs,oe.data=.fields vs)->PSs (X.suite a ((a,oe)::pn)) (b0::suite) (ts a cls d)) :
    PS X (.Try body [.ExceptHandler (some (.Tuple [.Name x1 q1,.Name x2 q2,.Name x3 q3] k tp)) (some n) (b0::suite) pos'] [] [] pos) (fun D σ H=>tb (wAs3 X.K [c1,c2,c3] i ts Wout D) D σ H):=by
  refine ⟨fun pins s σ H D I h=>?_⟩
  have Xok:=I.ok
  have frm:X.A.frames=some (X.env::X.outer):=by rw [Xok.frames,hs]
  refine wpAny_Try_except ?_
  let M:=model X.prog X.w
  let hd:ExceptHandler:=.ExceptHandler (some (.Tuple [.Name x1 q1,.Name x2 q2,.Name x3 q3] k tp)) (some n) (b0::suite) pos'
  let XH:Value->Shared->Prop:=fun e s1=>wpAny M X.A (noteFrame e X.env) (fun _ s2=>wpAny M X.A (setFlight e none) (fun _ s3=>wpAny M X.A (handleBy e X.env [hd]) (SP X pins D) X.xe s3) X.xe s2) X.xe s1
  have catches:L2N.Takes (X.tr (X.pn++pins) XH) (wAs3 X.K [c1,c2,c3] i ts Wout D):=fun u s' xx=>by
    obtain ⟨a,B,sI,pins',σ',H',cls,d,rfl,J',nb,up,sky,na,os,ag,b,hb1,yes,no⟩:=xx
    have J:Inv X pins σ' H' sI:=J'.ofTry Xok
    have sky2:Sky B (X.env::X.outer) a (L2N.Zn cls d) X.env.locals s'.heap:=by rw [<- hs];exact sky
    show wpAny M X.A (noteFrame (.ref a) X.env) _ _ _
    refine L2N.Sky.land L2N.Zn.steady frm hf sky2 fun g3 fl3 up3=>?_
    have notfr:a∉frs (X.env::X.outer):=fun hm=>by
      obtain ⟨oe,vs,e1,_,e3⟩:=fl3.there
      obtain ⟨_,o',e',nf⟩:=fl3.2.2.1.mem hm
      have z:=e1.symm.trans e'
      cases z
      exact nf _ e3
    have nL:a≠X.env.locals:=fun z=>notfr (List.mem_filterMap.mpr ⟨X.env,List.mem_cons_self,by rw [hf,z]⟩)
    have nF:a∉X.fs:=fun hm=>by
      obtain ⟨v,hv,q⟩:=List.mem_filterMap.mp hm
      exact notfr (List.mem_filterMap.mpr ⟨v,List.mem_cons_of_mem _ hv,q⟩)
    refine wpAny_handleBy_cons (codeAny_handlers_test ?_) (by intro q;cases q)
    have J3:Inv X pins σ' H' { s' with heap:=g3 }:=J.landed nb fl3.1 (up.trans up3) os ag
    obtain ⟨oe3,vs3,e3,z3,d3⟩:=fl3.there
    have S3:=J3.suite e3 d3 na nL nF
    refine aol (Y:=X.suite a ((a,oe3)::(X.pn++pins))) S3 h1 h2 h3 ?_
    let g4:=g3.push { cls:=.type "tuple",data:=.seq [c1,c2,c3].toArray }
    have k4:∀ b o,g3.get? b=some o->g4.get? b=some o:=fun b o q=>Heap.get?_push_of_some _ q
    have fl4:=alU k4 fl3
    have up4:g3.UpToSlots g4:=Heap.UpToSlots.of_keeps k4
    have LT:PySem.W.Looks M g4 (typeOf (.ref a)) cls:=fun A Q E s k q=>wpAny_typeOf_ref (k _ _ (k4 _ _ e3)) (by rw [z3.1];exact q)
    have LM:PySem.W.Looks M g4 (excMatches (.ref a) (.ref g3.objs.size)) b:=PySem.W.exm_tup3 (K:=X.K) (fun b o q=>k4 b o (J3.kIn b o q)) LT (Heap.get?_push_at rfl rfl) hb1
    refine LM.here (s:={ s' with heap:=g4 }) ?_
    cases b with
    | true=>
      refine codeAny_handlers_suite_as ?_
      refine HandSPX.lands_againZ fl4 fun g5 fl5 up5=>?_
      have J5:Inv X pins σ' H' { s' with heap:=g5 }:=J.landed nb fl5.1 (((up.trans up3).trans up4).trans up5) os ag
      obtain ⟨oe5,vs5,e5,z5,d5⟩:=fl5.there
      have S5:=J5.suite e5 d5 na nL nF
      refine store_ok (X:=X.suite a ((a,oe5)::(X.pn++pins))) (v:=.ref a) S5 hN hi (.inl hln) rfl (fun s6 S6=>?_) (.inr hln)
      refine wpAny_mono ((hsu a oe5 cls d (X.pn++pins) z5 ⟨_,d5⟩).run [] s6 _ H' _ S6 (yes rfl a na)) (fun f s7 r7=>?_) (fun _ _ z=>False.elim z)
      have leave:∀ {σ7:L2.St} {H7:Hp} {Q:Shared->Prop},Inv (X.suite a ((a,oe5)::(X.pn++pins))) [] σ7 H7 s7->(∀ s8,Inv X pins (σ7.set i none) H7 s8->Q s8)->
          wpAny M X.A (do bindName X.env n .none;unbindBehindTheSuite X.env n pos') (fun _ s8=>Q s8) X.xe s7:=fun S q=>gone_ok (S.unsuite Xok) hN hi hln q
      cases f with
      | next=>obtain ⟨σ7,H7,S7,y⟩:=r7;exact leave S7 fun s8 J8=>⟨_,_,J8,y⟩
      | brk=>obtain ⟨σ7,H7,S7,y⟩:=r7;exact leave S7 fun s8 J8=>⟨_,_,J8,y⟩
      | cont=>obtain ⟨σ7,H7,S7,y⟩:=r7;exact leave S7 fun s8 J8=>⟨_,_,J8,y⟩
      | ret u=>obtain ⟨v7,σ7,H7,S7,r,y⟩:=r7;exact leave S7 fun s8 J8=>⟨_,_,_,J8,r,y⟩
    | false=>
      show wpAny M X.A (handleBy (.ref a) X.env []) _ _ _
      refine wpAny_handleBy_nil ?_
      obtain ⟨_,_,_,oe,vs,T,oT,ts',e1,_,e2,e6,_⟩:=id fl4
      unfold PySem.passOn
      refine wpAny_bind (wpAny_field e1 e2 e6 ?_)
      rw [if_neg (show ¬ ((Value.ref T == Value.none)=true) from by simp)]
      have fin:wpAny M X.A (setFlight (.ref a) X.env.frame) (fun _ s4=>wpAny M X.A (throw (.ref a):Sem Flow) (SP X pins D) X.xe s4) X.xe { s' with heap:=g4 }:=by
        rw [hf]
        refine HandSPX.setFlight_upZ fl4 fun g5 hh5 up5=>wpAny_throw (tk _ _ ?_)
        exact ⟨a,B,sI,pins,σ',H',cls,d,rfl,J,nb,((up.trans up3).trans up4).trans up5,.inr (.inr (by rw [hs];exact hh5)),na,os,ag,no rfl⟩
      first
        | exact wpAny_bind (wpAny_pure (wpAny_bind fin))
        | exact wpAny_bind fin
  refine wpAny_mono ((hb _ (X.pn++pins) XH catches PassesOwn.looking).run [] s σ H D (I.toTry _) h) (fun f s1 r1=>?_) (fun e s1 he=>he)
  cases f with
  | next=>obtain ⟨σ',H',J',q⟩:=r1;exact wpAny_execs_nil ⟨σ',H',J'.ofTry Xok,q⟩
  | brk=>obtain ⟨σ',H',J',q⟩:=r1;exact ⟨σ',H',J'.ofTry Xok,q⟩
  | cont=>obtain ⟨σ',H',J',q⟩:=r1;exact ⟨σ',H',J'.ofTry Xok,q⟩
  | ret u=>obtain ⟨v,σ',H',J',r,q⟩:=r1;exact ⟨v,σ',H',J'.ofTry Xok,r,q⟩
end
def Grown (H H1:Hp) (P c':Addr) (q:Str) (ps:Array Value):Prop:=H1=H\/(H c'=none/\∃ l k:Nat,H1=upd (upd H P (.tbl (ps++#[rawInt l,rawInt k,.ref c']))) c' (LamX.CodeO c' q))
abbrev lamO (X:Cx) (params:Arguments) (body:Expr) (scope:Scope) (dV doc pm:Value) (c':Addr) (ctv:Value):Obj:=
  PySem.W.kdv_obj "<lambda>" (X.env.qual++"<lambda>") params (.expr body) scope (cloFrom X.env.cells scope.names []) dV doc pm c' ctv
section
variable {X:Cx} {pins:List (Addr × Obj)} {σ:L2.St} {H:Hp} {s:Shared} {c P:Addr} {ps:Array Value} {params:Arguments} {body:Expr} {scope:Scope} {pos:Pos} {Q E:Value->Shared->Prop}
theorem afN (I:Inv X pins σ H s) {f:Addr} (hf:s.heap.objs.size<=f):f∉frs X.stack:=fun z=>by
  rcases List.mem_cons.mp (I.stkSub _ z) with e | e
  · have h1:=I.lt
    rw [<- e] at h1
    exact Nat.lt_irrefl _ (Nat.lt_of_lt_of_le h1 hf)
  · exact I.nofs hf e
theorem ai2 {dV:Value} {ln:Nat} (I:Inv X pins σ H s) (TB:LamX.TabB X.base X.mg c P) (hcode:X.env.code=.ref c) (hP:H P=some (.tbl ps)) (ht:TriplesOk ps.toList)
    (ha:∀ (pos:Pos) (cv:Value),codeAmong pos ps.toList=some cv->∃ c',cv=.ref c'/\H c'=some (LamX.CodeO c' (X.env.qual++"<lambda>"))) (hfree:∀ y∈scope.names,y.2=.free->∃ c,X.env.cells.lookup y.1=some c)
    (h:∀ (f c':Addr) (doc pm ctv:Value) (H1:Hp) (s':Shared),Inv X pins σ H1 s'->Grown H H1 P c' (X.env.qual++"<lambda>") ps->s'.heap.get? f=some (lamO X params body scope dV doc pm c' ctv)->H1 f=none->f∉frs X.stack->H1 c'=some (LamX.CodeO c' (X.env.qual++"<lambda>"))->
      (∀ b o,b≠P->s.heap.get? b=some o->s'.heap.get? b=some o)->(∀ b,s.heap.objs.size<=b->b < f->H1 b=none\/b=c')->Q (.ref f) s') :
    wpAny (model X.prog X.w) X.A (makeTail "<lambda>" (X.env.qual++"<lambda>") params (.expr body) scope X.env dV .none none pos ln) Q E s:=by
  have bP:s.heap.BuiltinsAt X.mg P:=TB.bm.keeps I.bk
  have tP:s.heap.get? P=some { cls:=.none,data:=.fields ps }:=I.hok P _ hP
  cases hc:codeAmong pos ps.toList with
  | none=>
    refine PySem.W.kdv_makeTail (mg:=X.mg) (c:=c) (P:=P) (ps:=ps) (closure_ok hfree) I.ok.glob (I.mod.glob.keeps I.bk) hcode (TB.code.keeps I.bk) tP ht hc TB.gP bP fun c' ctv doc g tk ext ge lt rec tab=>?_
    obtain ⟨c2,oc,cv,t,rfl',o1,o2,o3⟩:=rec
    cases rfl'
    have nC:H c'=none:=I.hok.fresh ge
    have J:=LamX.inv_table (t':=tk) (q:=X.env.qual++"<lambda>") (more:=#[rawInt pos.line,rawInt pos.col,.ref c']) (h':=g.push (lamO X params body scope dV doc ((X.mg "__name__").getD .none) c' ctv)) I hP
      (fun b o hb e=>Heap.get?_push_of_some _ (ext b o hb e)) (Heap.get?_push_of_some _ tab) ge ⟨oc,cv,t,Heap.get?_push_of_some _ o1,o2,o3⟩
    have sz:s.heap.objs.size<=g.objs.size:=Nat.le_trans ge (Nat.le_of_lt lt)
    have fr:∀ b,s.heap.objs.size<=b->b≠c'->upd (upd H P (.tbl (ps++#[rawInt pos.line,rawInt pos.col,.ref c']))) c' (LamX.CodeO c' (X.env.qual++"<lambda>")) b=none:=fun b hb nb=>by
      have nbP:b≠P:=fun z=>by subst z;exact absurd (Heap.lt_size tP) (Nat.not_lt.mpr hb)
      rw [upd_ne nb,upd_ne nbP]
      exact I.hok.fresh hb
    refine h g.objs.size c' doc _ ctv _ _ J (.inr ⟨nC,_,_,rfl⟩) (Heap.get?_push_size _ rfl) (fr _ sz (Nat.ne_of_gt lt)) (afN I sz) upd_same (fun b o hb e=>Heap.get?_push_of_some _ (ext b o hb e)) fun b h1 h2=>?_
    by_cases z:b=c'
    · exact .inr z
    · exact .inl (fr b h1 z)
  | some cv=>
    obtain ⟨c',rfl,hco⟩:=ha pos cv hc
    refine PySem.W.kdv_makeTailHit (mg:=X.mg) (c:=c) (P:=P) (ps:=ps) (closure_ok hfree) I.ok.glob (I.mod.glob.keeps I.bk) hcode (TB.code.keeps I.bk) tP ht hc bP fun ctv doc g tk ext sz=>?_
    have J:Inv X pins σ H { s with heap:=g.push (lamO X params body scope dV doc ((X.mg "__name__").getD .none) c' ctv),toks:=tk }:=I.kept fun b o e=>Heap.get?_push_of_some _ (ext b o e)
    exact h g.objs.size c' doc _ ctv H _ J (.inl rfl) (Heap.get?_push_size _ rfl) (I.hok.fresh sz) (afN I sz) hco (fun b o _ e=>Heap.get?_push_of_some _ (ext b o e)) fun b h1 _=>.inl (I.hok.fresh h1)
inductive LamPar:Arguments->List Str->Prop
  | none {params:Arguments} (h1:params.defaults=[]) (h2:params.kw_defaults=[])
      (hb:∀ (q:Str) (body:Expr) (scope:Scope) (cl:List (Str × Addr)) (doc pm cv ctv:Value),bindArgs (PySem.W.kdv_fn "<lambda>" q params (.expr body) scope cl .none doc pm cv ctv) ⟨[],[]⟩=pure []):LamPar params []
  | one {params:Arguments} {x:Str} {i:Int} {j:Nat} {p:Pos} (h1:params.defaults=[.Constant (.int i) j p]) (h2:params.kw_defaults=[])
      (hb:∀ (q:Str) (body:Expr) (scope:Scope) (cl:List (Str × Addr)) (dV doc pm cv ctv v:Value),∃ k,bindArgs (PySem.W.kdv_fn "<lambda>" q params (.expr body) scope cl dV doc pm cv ctv) ⟨[],[]⟩=seqItems? dV >>= k/\k (some #[v])=pure [(x,v)]):LamPar params [x]
def LamAt (X:Cx) (params:Arguments) (body:Expr) (scope:Scope) (f c':Addr) (H:Hp) (s:Shared):Prop:=∃ dV doc pm ctv,s.heap.get? f=some (lamO X params body scope dV doc pm c' ctv)/\H f=none/\f∉frs X.stack/\
  ((params.defaults=[]/\dV=.none)\/∃ T i t,dV=.ref T/\s.heap.get? T=some (PySem.W.kdv_tup [.int i t])/\H T=none/\T∉frs X.stack/\params.defaults≠[])
theorem alR {xs:List Str} (hp:LamPar params xs) (I:Inv X pins σ H s) (TB:LamX.TabB X.base X.mg c P) (hcode:X.env.code=.ref c) (hP:H P=some (.tbl ps)) (ht:TriplesOk ps.toList)
    (ha:∀ (pos:Pos) (cv:Value),codeAmong pos ps.toList=some cv->∃ c',cv=.ref c'/\H c'=some (LamX.CodeO c' (X.env.qual++"<lambda>"))) (hfree:∀ y∈scope.names,y.2=.free->∃ c,X.env.cells.lookup y.1=some c)
    (h:∀ (f c':Addr) (H1:Hp) (s':Shared),Inv X pins σ H1 s'->Grown H H1 P c' (X.env.qual++"<lambda>") ps->LamAt X params body scope f c' H1 s'->H1 c'=some (LamX.CodeO c' (X.env.qual++"<lambda>"))->Q (.ref f) s') :
    wpAny (model X.prog X.w) X.A (eval (.Lambda params body scope pos) X.env) Q E s:=by
  cases hp with
  | none h1 h2 hb=>
    have hdef:defaultsOf params X.env=([],[]):=by
      obtain ⟨a1,a2,a3,a4,a5,a6,a7⟩:=params
      cases h1;cases h2
      rfl
    refine PySem.W.kla_eval hdef ?_
    rw [makeFunction_eq]
    simp only [List.zip_nil_right,List.filterMap_nil,List.isEmpty_nil,if_true,pure_bind]
    exact ai2 I TB hcode hP ht ha hfree fun f c' doc pm ctv H1 s' J g o n nf hc k _=>h f c' H1 s' J g ⟨_,_,_,_,o,n,nf,.inl ⟨h1,rfl⟩⟩ hc
  | @one x i j p h1 h2 hb=>
    refine PySem.W.kdv_lam (by rw [h1];rfl) h2 ?_
    rw [h1]
    refine PySem.W.kdv_all1 (wpAny_Constant_int (PySem.W.kdv_all0 ?_))
    rw [makeFunction_eq]
    simp only [List.zip_nil_right,List.filterMap_nil,List.isEmpty_nil,if_true,pure_bind,List.isEmpty_cons,Bool.false_eq_true,if_false]
    refine wpAny_bind (wpAny_newTextTuple ?_)
    have I2:Inv X pins σ H { s with heap:=s.heap.push (PySem.W.kdv_tup [.int i s.toks]),toks:=s.toks + 1 }:=I.kept fun b o e=>Heap.get?_push_of_some _ e
    refine ai2 I2 TB hcode hP ht ha hfree fun f c' doc pm ctv H1 s' J g o n nf hc k fr=>?_
    have tT:s.heap.objs.size≠P:=fun z=>Nat.lt_irrefl _ (Nat.lt_of_lt_of_le (Heap.lt_size (I.hok P _ hP)) (Nat.le_of_eq z))
    have sT:(s.heap.push (PySem.W.kdv_tup [.int i s.toks])).get? s.heap.objs.size=some (PySem.W.kdv_tup [.int i s.toks]):=Heap.get?_push_size _ rfl
    refine h f c' H1 s' J g ⟨_,_,_,_,o,n,nf,.inr ⟨s.heap.objs.size,i,s.toks,rfl,k _ _ tT sT,?_,afN I (Nat.le_refl _),by rw [h1];simp⟩⟩ hc
    rcases g with rfl | ⟨z,l,k',rfl⟩
    · exact I.hok.fresh (Nat.le_refl _)
    · have nc:s.heap.objs.size≠c':=fun y=>by
        subst y
        have w:=J.hok _ _ hc
        obtain ⟨⟨oc,vs,t,e1,e2,_⟩,_⟩:=w
        have e3:=k _ _ tT sT
        rw [e1] at e3
        cases e3
        cases e2
      rw [upd_ne nc,upd_ne tT]
      exact I.hok.fresh (Nat.le_refl _)
end
structure LamN (N:List Str) (sc scope:Scope) (xs:List Str):Prop where
  kind:scope.kind=.function
  co:scope.isCoroutine=false
  gen:scope.isGenerator=false
  own:∀ y∈scope.names,y.2≠.cell/\(y.2=.local->y.1∉N)
  free:∀ y∈scope.names,y.2=.free->sc.names.lookup y.1=some .cell\/sc.names.lookup y.1=some .free
  par:∀ a∈xs,scope.names.lookup a=some .local
def lamC (X:Cx) (A:Around) (outer:List Env) (s:Shared) (H:Hp) (E:XK) (scope:Scope) (f c':Addr):Cx:=
  { LamX.lamCx X A outer s H E scope f c' with
    xe:=fun e s'=>wpAny (model X.prog X.w) (A.deeper (LamX.lamEnv X scope s.heap.objs.size f c')) (leaving (LamX.lamEnv X scope s.heap.objs.size f c') e) (fun _ s''=>L2N.CX X.prog X.w outer H s E e s'') (fun e' s''=>L2N.CX X.prog X.w outer H s E e' s'') s' }
section
variable {X:Cx} {pins:List (Addr × Obj)} {σ:L2.St} {H HZ:Hp} {s s1:Shared} {params:Arguments} {xs:List Str}
theorem LamN.has {scope:Scope} (L:LamN X.N X.env.scope scope xs) (ok:X.Ok):∀ y∈scope.names,y.2=.free->∃ c,X.env.cells.lookup y.1=some c:=fun y hy e=>by
  rcases L.free y hy e with k | k
  · exact ok.has _ (.inl k)
  · exact ok.has _ (.inr k)
theorem akG {A:Around} {outer:List Env} {E:XK} {scope:Scope} {f c':Addr} {h1:Heap} {tk:Nat} {m:Str->Option Value} (I:Inv X pins σ H s) (L:LamN X.N X.env.scope scope xs) (e0:Env0 X.prog X.w X.K X.mg X.base A outer s1 HZ) (hd:A.handled=none)
    (un:Un (frs X.stack) [] H HZ s.heap s1.heap) (hns:h1.Ns s1.heap.objs.size m) (kp:∀ b o,s1.heap.get? b=some o->h1.get? b=some o) :
    Inv (lamC X A outer s1 HZ E scope f c') [] σ HZ { s1 with heap:=h1,toks:=tk }:=by
  have hfree:=L.has I.ok
  have back:∀ {y:Str} {d:Addr},(cloFrom X.env.cells scope.names []).lookup y=some d->X.env.cells.lookup y=some d:=fun {y d} e=>by
    rcases cloFrom_mem (PySem.mem_of_lookup e) with hm | ⟨z1,z2⟩
    · cases hm
    · obtain ⟨d1,hc⟩:=hfree _ z1 rfl
      have hc':X.env.cells.lookup y=some d1:=hc
      have e2:d=d1:=by rw [z2,hc']<;>rfl
      rw [e2];exact hc'
  have forth:∀ {y:Str},scope.names.lookup y=some .free->∃ d,(cloFrom X.env.cells scope.names []).lookup y=some d:=fun {y} hl=>
    mem_lookup (cloFrom_has (cells:=X.env.cells) (acc:=[]) (PySem.mem_of_lookup hl:(y,NameKind.free)∈scope.names))
  have cellK:∀ {d:Addr} {v:Option Value},H d=none->s.heap.IsCell d v->h1.IsCell d v:=fun {d v} n ⟨o,ho,hdt⟩=>by
    obtain ⟨sl,q⟩:=un.any ho n (by simp)
    exact ⟨_,kp _ _ q,hdt⟩
  have noX:∀ b:Addr,b∉(lamC X A outer s1 HZ E scope f c').ex:=fun b z=>absurd (show b∈([]:List Addr) from z) (by simp)
  have OK:(lamC X A outer s1 HZ E scope f c').Ok:=⟨e0.mod,L.kind,rfl,rfl,Nat.le_refl _,fun y z c e1 e2=>I.ok.inj y z c (back e1) (back e2),fun y hy=>by
      have hy':scope.names.lookup y=some .cell\/scope.names.lookup y=some .free:=hy
      rcases hy' with hy' | hy'
      · exact absurd rfl (L.own _ (PySem.mem_of_lookup hy')).1
      · exact forth hy',
    fun y c z _=>(Bool.noConfusion (show false=true from z)),fun _=>hd,Around.frames_deeper e0.frames,.inr ⟨rfl,rfl⟩,fun b z=>absurd z (noX b),e0.bs,e0.bsz,fun b _ _=>noX b,fun b z=>absurd z (noX b),e0.funs,e0.frf⟩
  refine ⟨OK,rfl,e0.bare,Un.kept kp,⟨m,hns,fun i y v e1 e2 e3=>?_⟩,fun y c e=>?_,e0.hok.fresh (Nat.le_refl _),fun y c e=>?_,fun q hq=>absurd (show q∈([]:List (Addr × Obj))++[] from hq) (by simp),e0.hok.kept kp,I.len⟩
  · have vis:Vis scope y:=e3
    have iN:y∈X.N:=List.mem_of_getElem? e1
    rcases vis with k | k | k
    · exact absurd iN ((L.own _ (PySem.mem_of_lookup k)).2 rfl)
    · exact absurd rfl (L.own _ (PySem.mem_of_lookup k)).1
    · obtain ⟨m0,hn0,hl⟩:=I.loc
      have src:=L.free _ (PySem.mem_of_lookup k) rfl
      obtain ⟨u,r,q⟩:=hl i y v e1 e2 (src.elim (fun z=>.inr (.inl z)) fun z=>.inr (.inr z))
      obtain ⟨d,hd2⟩:=forth k
      refine ⟨u,r,.inr ⟨.inr k,d,hd2,?_⟩⟩
      have hb:=back hd2
      rcases q with ⟨k',_⟩ | ⟨_,d3,e',z⟩
      · have k'':X.env.scope.names.lookup y=some .local:=k'
        rcases src with k2 | k2<;>rw [show X.env.scope.names.lookup y=_ from k2] at k''<;>cases k''
      · rw [hb] at e';cases e'
        exact cellK (I.freeC y _ hb) z
  · obtain ⟨u,z⟩:=I.cell y c (back e)
    exact ⟨u,cellK (I.freeC y c (back e)) z⟩
  · obtain ⟨v,o,ho,hdt⟩:=I.cell y c (back e)
    exact un.free c o ho (I.freeC y c (back e)) (by simp)
abbrev gotC (X:Cx) (Ng:List Str) (qg:Str) (sg:Scope) (g:Addr) (cdg:Value) (s:Shared) (H:Hp) (Eg:XK):Cx:=cxOf (L2N.CX X.prog X.w) X.prog X.w X.K X.mg X.base Ng qg sg g cdg X.A X.stack s H Eg
theorem aoh {Eg:XK} {Ng:List Str} {qg:Str} {sg:Scope} {g f c':Addr} {cdg:Value} {body:Expr} {scope:Scope} {k i:Nat} {a:Str} {pn:List (Addr × Obj)} {xe:Value->Shared->Prop} {W:WX} {E:XK} {tb:TE} {p1 p2:Pos}
    (hp:LamPar params xs) (I:Inv X pins σ H s) (L:LamN X.N X.env.scope scope xs)
    (la:LamAt X params body scope f c' H s) (tk:L2N.Takes ((gotC X Ng qg sg g cdg s H Eg).tr pn xe) W) (hW:∀ cls d (σ':L2.St) H',σ'.length=Ng.length->E cls d H'->W cls d σ' H') (hr:Room (k + 1) (X.A.deeper (envOfC qg sg s.heap.objs.size g cdg))) (hgd:X.A.guards=some [])
    (hbody:∀ (A:Around) (outer:List Env) (s:Shared) (H:Hp),Room k (A.deeper (LamX.lamEnv X scope s.heap.objs.size f c'))->A.guards=some []->PE (lamC X A outer s H E scope f c') body tb)
    (hN:Ng[i]?=some a) (hv:Vis sg a) (hd:(a == ("__debug__":Str))=false:=by decide) (hcd:(a == ("__classdict__":Str))=false:=by decide) :
    PE ((gotC X Ng qg sg g cdg s H Eg).tr pn xe) (.Call (.Name a p1) [] [] p2)
      (fun σZ HZ Q=>σZ[i]?=some (some (.ref f))/\HZ c'=some (LamX.CodeO c' (X.env.qual++"<lambda>"))/\tb σ HZ Q):=by
  refine ⟨fun pinsZ sZ σZ HZ Q IZ h=>?_⟩
  obtain ⟨hs,hc,ht⟩:=h
  refine wpAny_Call_Name_kw (thn ((pe_var (pos:=p1) (i:=i) hN hv hd hcd).run pinsZ sZ σZ HZ (fun v H1=>v=.ref f/\H1=HZ) IZ ⟨.ref f,hs,rfl,rfl⟩) fun u s1 ⟨v,H1,I1,r1,q1⟩=>?_)
  obtain ⟨rfl,rfl⟩:=q1
  obtain rfl:u=Value.ref f:=r1
  obtain ⟨dV,doc,pm,ctv,of0,nf,ff,dfl⟩:=la
  have noex:∀ b:Addr,b∉((gotC X Ng qg sg g cdg s H Eg).tr pn xe).ex:=fun b z=>absurd (show b∈([]:List Addr) from z) (by simp)
  have of1:s1.heap.get? f=some (lamO X params body scope dV doc pm c' ctv):=I1.base.keep f _ of0 nf ff (noex f)
  refine PySem.W.callWith_F0 ⟨_,_,_,_,of1⟩ ?_
  have un:Un (frs X.stack) [] H H1 s.heap s1.heap:=I1.base
  obtain ⟨⟨oc,vs,t,hoc,hdc,hvc⟩,_,_⟩:=I1.hok c' _ hc
  obtain ⟨binds,hbd,hlc⟩:∃ binds,BindsTo s1 (PySem.W.kdv_fn "<lambda>" (X.env.qual++"<lambda>") params (.expr body) scope (cloFrom X.env.cells scope.names []) dV doc pm (.ref c') ctv) ⟨[],[]⟩ binds/\∀ y∈binds,scope.names.lookup y.1=some .local:=by
    cases hp with
    | none h1 h2 hb=>
      rcases dfl with ⟨_,rfl⟩ | ⟨_,_,_,_,_,_,_,z⟩
      · exact ⟨[],BindsTo.of_eq (hb _ _ _ _ _ _ _ _),fun y hy=>absurd hy (by simp)⟩
      · exact absurd h1 z
    | @one x i0 j p h1 h2 hb=>
      rcases dfl with ⟨z,_⟩ | ⟨T,iT,tT,rfl,oT,nT,fT,z⟩
      · rw [h1] at z;cases z
      · obtain ⟨kk,e1,e2⟩:=hb (X.env.qual++"<lambda>") body scope (cloFrom X.env.cells scope.names []) (.ref T) doc pm (.ref c') ctv (.int iT tT)
        refine ⟨[(x,.int iT tT)],BindsTo.of_defaults rfl (I1.base.keep T _ oT nT fT (noex T)) rfl e1 e2,fun y hy=>?_⟩
        rw [List.mem_singleton.mp hy]
        exact L.par x (List.mem_singleton.mpr rfl)
  have rc:codeAny (model X.prog X.w) (X.A.deeper (envOfC qg sg s.heap.objs.size g cdg)) (.call (.ref f) ⟨[],[]⟩) (CR (L2N.CX X.prog X.w) (envOfC qg sg s.heap.objs.size g cdg::X.stack) X.prog X.w H1 s1 Q E) s1:=by
    refine PySem.W.kla_callFunE hr.depth of1 rfl L.co L.gen rfl ⟨c',oc,vs,t,rfl,hoc,hdc,hvc⟩ (hbd _ _ _ _ ?_)
    refine wpAny_newFunctionEnv (fun y hy=>(L.own y hy).1) hlc (fun h1 hns hsb=>⟨I1.nolimit.fresh _ hsb,?_⟩) L.kind
    show codeAny _ _ (.expr body (LamX.lamEnv X scope s1.heap.objs.size f c')) _ _
    have kp:∀ b o,s1.heap.get? b=some o->h1.get? b=some o:=fun b o e=>hsb.extBut b o (Nat.ne_of_lt (Heap.lt_size e)) (Heap.get?_push_of_some _ e)
    have J:=akG (A:=X.A.deeper (envOfC qg sg s.heap.objs.size g cdg)) (outer:=envOfC qg sg s.heap.objs.size g cdg::X.stack) (E:=E) (f:=f) (c':=c') (tk:=s1.toks + binds.length) I L I1.env0 hr.hd un hns kp
    refine PySem.W.kla_codeExpr (wpAny_mono ((hbody _ _ s1 H1 (hr.deeper _) hgd).run [] _ _ H1 Q J ht) (fun v s' hq=>?_) fun e s' hq=>hq)
    obtain ⟨w',H',J',rv,q⟩:=hq
    exact ⟨w',H',J'.os,J'.bare,J'.base,J'.hok,rv,q⟩
  refine wpAny_call (codeAny_mono rc fun r s' hq=>?_)
  cases r with
  | error e=>exact tk e s' (L2N.XE.of_call I1 (fun cls d H' h=>hW cls d σZ H' I1.len h) hq)
  | ok fl=>
    cases fl with
    | ret u=>exact I1.after hq
    | next=>exact False.elim hq
    | brk=>exact False.elim hq
    | cont=>exact False.elim hq
end
structure PinX (K:PySem.W.Frag) (p:Addr × Obj) (C dx:Addr):Prop where
  z:L2N.Zn (.ref C) (some dx) p.2
  f:∃ vs,p.2.data=.fields vs
  x:XfC K C
def tXfP (K:PySem.W.Frag) (p:Addr × Obj) (n:Str) (te:TE):TE:=fun σ H Q=>te σ H fun x H1=>x=.ref p.1/\∃ C dx fs v,PinX K p C dx/\PySem.W.findIn K (.ref C) n=some none/\H1 dx=some (.xd fs)/\fs.lookup n=some v/\Q v H1
theorem abH {Y:Cx} {p:Addr × Obj} {e:Expr} {te:TE} {pos:Pos} {n:Str} (hp:p∈Y.pn) (he:PE Y e te) (hb:attributeBase e n Y.env (eval e Y.env)=eval e Y.env:=by rfl):PE Y (.Attribute e n pos) (tXfP Y.K p n te):=by
  refine ⟨fun pins s σ H Q I h=>?_⟩
  refine attr_of hb (thn (he.run pins s σ H _ I h) fun u s1 ⟨x,H1,I1,rx,ex,C,dx,fs,v,T,hno,ea,l,q⟩=>?_)
  subst ex
  obtain rfl:u=Value.ref p.1:=rx
  obtain ⟨ga,_⟩:=I1.pin p (List.mem_append_left _ hp)
  obtain ⟨vs,hd⟩:=T.f
  obtain ⟨mA,hns,hr⟩:ObjOk Y.prog Y.w H1 s1.heap dx (.xd fs):=I1.hok dx _ ea
  obtain ⟨od,ho,hl⟩:=lookIn_ns hns
  obtain ⟨w,hw,rw'⟩:=RelO.some_of (v:=v) (o:=mA n) (by rw [<- l];exact hr n)
  have J:PySem.W.InstAt s1.heap p.1 p.2 C (some od):=⟨ga,T.z.1,by unfold PySem.W.notCls;rw [hd]<;>rfl,by rw [T.z.2.1];exact ho⟩
  exact HandSPX.exc_get I1.kIn J T.x.ga T.x.gg T.x.exC (PySem.W.findObj_own T.x.hdC hno rfl (by rw [hl,hw])) (handed_of rw') ⟨v,H1,I1.tok _,rw',q⟩
structure FnP (P:Program) (w:World) (K:PySem.W.Frag) (mg:Str->Option Value) (base:Heap) (k:Nat) (f:Addr) (fd:FuncData) (ps:List Str) (sp:Addr × Obj->Sp):Prop where
  len:∀ p vs H Q E,sp p vs H Q E->vs.length=ps.length
  run:∀ (A:Around) (outer:List Env) (s:Shared) (H:Hp) (args:Args) (us:List Value) (vs:List V) (Q:VK) (E:XK) (p:Addr × Obj),L2H.RoomH k A->L2H.Hot1 A p->L2H.PinOk outer H s p->Env0 P w K mg base A outer s H->BindsTo s fd args (ps.zip us)->Vals vs us->sp p vs H Q E->
    codeAny (model P w) A (.call (.ref f) args) (CR (L2N.CX P w) outer P w H s Q E) s
theorem aoF {P:Program} {w:World} {K:PySem.W.Frag} {mg:Str->Option Value} {base:Heap} {x qual:Str} {params:Arguments} {body:List Stmt} {scope:Scope} {dvs:List V} {kws:List (Str × V)} {f:Addr} {fd:FuncData} {N ps:List Str} {k:Nat} {sp:Addr × Obj->Sp}
    (F:FunD K x qual params body scope dvs kws f fd) (S:FnScope N ps scope) (len:∀ p vs H Q E,sp p vs H Q E->vs.length=ps.length)
    (hd:∀ (cdv:Value) (A:Around) (outer:List Env) (s:Shared) (H:Hp) (vs:List V) (Q:VK) (E:XK) (p:Addr × Obj),sp p vs H Q E->
      ∃ t,PSs (L2H.cxH (L2N.CX P w) P w K mg base N qual scope f cdv A outer s H E p) body t/\t { nx:=fun _ H'=>Q .non H',rt:=Q } (L2.start N vs) H):FnP P w K mg base (k + 1) f fd ps sp:=by
  obtain ⟨oc,od,dV,kV,doc,pm,an,cdv,ct,osl,rfl,lk,hcd,_,_⟩:=F.ex
  refine ⟨len,fun A outer s H args us vs Q E p hroom hot pin e0 hb r hsp=>?_⟩
  have KX:K.In s.heap:=e0.mod.kin.keeps fun b o e=>(e0.bs b o e).1
  have lim:s.heap.NoLimit:=e0.mod.nolimit.keeps fun b o e=>(e0.bs b o e).1
  have hkind:((ps.zip us).all fun y=>scope.names.lookup y.1 == some .local || scope.names.lookup y.1 == some .cell)=true:=by
    rw [List.all_eq_true]
    rintro ⟨n,u⟩ hy
    rcases S.par n (List.of_mem_zip hy).1 with z | z
    · show (scope.names.lookup n == some .local || _)=true
      rw [z];rfl
    · show (scope.names.lookup n == some .local || scope.names.lookup n == some .cell)=true
      rw [z];rfl
  refine Att.call_fn KX lim lk hcd hroom.depth hb hkind (fun s1 x=>?_) S.co S.gen S.kind
  have I:=L2H.inv_startH (CX:=L2N.CX P w) (E:=E) S pin e0 (len _ _ _ _ _ hsp) r x
  obtain ⟨t,pt,qt⟩:=hd cdv A outer s H vs Q E p hsp
  refine wpAny_mono (pt.run [] s1 (L2.start N vs) H _ I qt) (fun fl s' hs=>?_) fun e s' hs=>hs
  cases fl with
  | ret u=>
    obtain ⟨v,σ',H',J,rv,z⟩:=hs
    exact ⟨v,H',J.os,J.bare,J.base,J.hok,rv,z⟩
  | next=>
    obtain ⟨σ',H',J,z⟩:=hs
    exact ⟨.non,H',J.os,J.bare,J.base,J.hok,rfl,z⟩
  | brk=>obtain ⟨_,_,_,z⟩:=hs;exact False.elim z
  | cont=>obtain ⟨_,_,_,z⟩:=hs;exact False.elim z
theorem alG {Y:Cx} {k:Nat} {f:Addr} {fd:FuncData} {ps:List Str} {sp:Addr × Obj->Sp} {x:Str} {q pos:Pos} {e:Expr} {es:List Expr} {t:TA} {p:Addr × Obj} (F:FnP Y.prog Y.w Y.K Y.mg Y.base k f fd ps sp) (hr:L2H.RoomH k Y.A) (hot:L2H.Hot1 Y.A p) (hp:p∈Y.pn) (hg:Gl Y x) (hm:Y.mg x=some (.ref f)) (hk:PySem.W.keepIn Y.K (.ref f)=true) (hb:Binds Y.K fd ps [])
    (ha:PA Y (e::es) t) (hdb:(x == ("__debug__":Str))=false:=by decide) (he:starEach (e::es) Y.env=(false,eval e Y.env)::starEach es Y.env:=by rfl) (hpl:(backTo pos (starEach es Y.env)).any (·.1)=false:=by rfl) :
    PE Y (.Call (.Name x q) (e::es) [] pos) (fun σ H Q=>t σ H fun vs H1=>sp p vs H1 Q E0):=by
  refine ⟨fun pins s σ H Q I h=>wpAny_Call_Name_kw (ld_glob I hg hm ?_ hdb)⟩
  refine PySem.W.callWith_K (h₀:=Y.base) I.ok.mod.kin hk (thn (ha.run pos pins s σ H _ I h) fun us s1 ⟨vs,H1,I1,r,q⟩=>⟨I1.kIn,?_⟩) he hpl
  have hl:(us++[]).length=ps.length:=by rw [List.append_nil,<- r.length];exact F.len _ _ _ _ _ q
  have hb2:=hb s1 us I1.kIn hl
  rw [List.append_nil] at hb2
  obtain ⟨g1,g2,g3,g4,g5⟩:=I1.pin p (List.mem_append_left _ hp)
  have pin:L2H.PinOk Y.stack H1 s1 p:=⟨g1,g2,fun z=>(List.mem_cons.mp (I1.stkSub p.1 z)).elim g3 g4,g5⟩
  refine wpAny_call (codeAny_mono (F.run Y.A Y.stack s1 H1 ⟨us,[]⟩ us vs Q E0 p hr hot pin I1.env0 hb2 r q) fun r s' hq=>?_)
  cases r with
  | error e=>
    obtain ⟨_,_,_,_,_,_,_,_,_,_,_,_,z⟩:=hq
    exact False.elim z
  | ok fl=>
    cases fl with
    | ret u=>exact I1.after hq
    | next=>exact False.elim hq
    | brk=>exact False.elim hq
    | cont=>exact False.elim hq
def fieldsOf {α:Type} (c:Str) (fs:List (Str × α)):Option (List α):=
  let g1:=fun (f:Str)=>(fs.lookup f).map fun v=>[v]
  if c∈(["InvalidRatio","InvalidNumber","InvalidName","InvalidLayer","InvalidPlace","InvalidPoint","InvalidForm","InvalidLimit"]:List Str) then g1 "given"
  else if c∈(["InvalidRow","InvalidFact","InvalidCommand"]:List Str) then g1 "at"
  else if c∈(["InvalidStep","UnlikeEnds"]:List Str) then g1 "path"
  else if c∈(["DuplicateName","UnknownName"]:List Str) then g1 "name"
  else if c∈(["InvalidText","UnknownScript"]:List Str) then g1 "word"
  else if c="InvalidTable" then g1 "layer"
  else if c="InvalidWay" then (match fs.lookup ("layer":Str),fs.lookup ("start":Str),fs.lookup ("goal":Str) with
    | some a,some b,some d=>some [a,b,d]
    | _,_,_=>none)
  else if c="Full" then g1 "limit"
  else if c="InvalidPage" then g1 "line"
  else if c="TooMany" then (match fs.lookup ("subject":Str),fs.lookup ("most":Str) with
    | some a,some b=>some [a,b]
    | _,_=>none)
  else some []
def errFields:List Str:=["code","given","at","path","name","word","layer","start","goal","limit","line","subject","most"]
structure ErrC (K:PySem.W.Frag) (cs:List Value) (C:Addr):Prop where
  x:XfC K C
  no:∀ f∈errFields,PySem.W.findIn K (.ref C) f=some none
  is:PySem.W.exmAny K (.ref C) cs=some true
def spFields (K:PySem.W.Frag):Addr × Obj->Sp:=fun p vs H Q _=>∃ C dx fs c xs,vs=[.ref p.1]/\PinX K p C dx/\(∀ f∈errFields,PySem.W.findIn K (.ref C) f=some none)/\H dx=some (.xd fs)/\fs.lookup ("code":Str)=some (.str c)/\fieldsOf c fs=some xs/\
  ∀ H' l,Ex H H'->H l=none->H' l=some (.tup xs)->Q (.ref l) H'
section
variable {K:PySem.W.Frag} {G G1:Hp} {so:So} {σ:L2.St} {H H1 H2:Hp} {sl s1:DSt}
theorem ajv {P c':Addr} {q:Str} {ps:Array Value} (rep:Rep K G so σ H sl) (hm:(P,Kd.tab q)∈so) (hP:H P=some (.tbl ps)) (gr:Grown H H1 P c' q ps):∃ G1,Post K G so σ H sl H1 G1 sl:=by
  rcases gr with rfl | ⟨nC,l,k,rfl⟩
  · exact ⟨G,.refl rep⟩
  · have gC:G c'=none:=rep.h.ex.free nC
    have nPc:P≠c':=ne_of_none hP nC
    have at_:∀ b,b≠P->b≠c'->upd (upd H P (.tbl (ps++#[rawInt l,rawInt k,.ref c']))) c' (LamX.CodeO c' q) b=H b:=fun b z1 z2=>by rw [upd_ne z2,upd_ne z1]
    have nvP:∀ b,so.Nq b->b≠P:=fun b z y=>by
      obtain ⟨C,e⟩:=z _ (y ▸ hm)
      cases e
    have hr:HRep K (upd G c' (LamX.CodeO c' q)) so (upd (upd H P (.tbl (ps++#[rawInt l,rawInt k,.ref c']))) c' (LamX.CodeO c' q)):=by
      refine ⟨fun b o e=>?_,fun b kd e=>?_,rep.h.ok,ah5 (aeZ rep.h.tp (by intro _ z;cases z))⟩
      · by_cases z:b=c'
        · subst z;rw [upd_same] at e ⊢;exact e
        · rw [upd_ne z] at e
          rw [at_ b (nvP b (So.Nt.q (rep.h.nsrc e))) z]
          exact rep.h.ex b o e
      · have old:=rep.h.vol b kd e
        have nb:b≠c':=fun z=>by subst z;exact old.there nC
        by_cases z:b=P
        · subst z
          obtain rfl:=rep.h.ok.uq _ _ _ e hm
          obtain ⟨gP,ps0,e1,e2,e3⟩:=old
          rw [hP] at e1;cases e1
          have eL:(ps++#[rawInt l,rawInt k,.ref c']).toList=ps.toList++[rawInt l,rawInt k,.ref c']:=by simp
          refine ⟨by rw [upd_ne nb];exact gP,_,by rw [upd_ne nb,upd_same],by rw [eL];exact PySem.TriplesOk_snoc _ _ _ _ e2,fun pos cv hc=>?_⟩
          rw [eL] at hc
          rcases LamX.among_app (pos:=⟨l,k,0,0⟩) _ e2 hc with y | y
          · obtain ⟨c0,y1,y2⟩:=e3 pos cv y
            exact ⟨c0,y1,Ex.new gC _ _ y2⟩
          · exact ⟨c',y,upd_same⟩
        · exact old.keep (Ex.new gC) (by rw [upd_ne nb];exact old.g) (at_ b z nb)
    have pv:PostV K G so H .non _ (upd G c' (LamX.CodeO c' q)) (.d .non):=⟨Ex.new gC,hr,fun b o e z=>by rw [at_ b (nvP b z) (ne_of_none e nC)];exact e,fun b n g z=>by rw [upd_ne (fun y=>by subst y;exact n nC)];exact g,.non,fun _ _ e=>(nomatch e),fun _ e=>(nomatch e)⟩
    exact ⟨_,(pv.slots rep).toPost⟩
theorem PostV.tupleX {l:Addr} {vs:List V} {ds:List D} (h:HRep K G so H) (e:Ex H H2) (n:H l=none) (t:H2 l=some (.tup vs)) (a:DAll K G vs ds):PostV K G so H (.ref l) H2 (tpUp G H2) (.d (.tup ds)):=
  ⟨ah6 h e,h.grow e,fun b o q _=>e b o q,fun b q g _=>ahm h e q g,DOk.tup (SqT.of (by unfold tpUp;rw [t])) (a.mono (ah6 h e)),fun _ o e=>(nomatch e),fun _ e=>(nomatch e)⟩
theorem ajF {c:Str} {vs:List (Str × V)} {fs:List (Str × D)} {xs:List D} (h:FAll K G vs fs) (e:fieldsOf c fs=some xs):∃ xv,fieldsOf c vs=some xv/\DAll K G xv xs:=by
  have one:∀ {f:Str} {xs:List D},(fs.lookup f).map (fun v=>[v])=some xs->∃ xv,(vs.lookup f).map (fun v=>[v])=some xv/\DAll K G xv xs:=fun {f xs} z=>by
    cases q:fs.lookup f with
    | none=>rw [q] at z;cases z
    | some d=>
      rw [q] at z;cases z
      obtain ⟨v,h1,h2⟩:=h.look q
      exact ⟨[v],by rw [h1];rfl,.cons h2 .nil⟩
  unfold fieldsOf at e ⊢
  dsimp only at e ⊢
  split at e
  · rename_i z;rw [if_pos z];exact one e
  rename_i z;rw [if_neg z]
  split at e
  · rename_i z;rw [if_pos z];exact one e
  rename_i z;rw [if_neg z]
  split at e
  · rename_i z;rw [if_pos z];exact one e
  rename_i z;rw [if_neg z]
  split at e
  · rename_i z;rw [if_pos z];exact one e
  rename_i z;rw [if_neg z]
  split at e
  · rename_i z;rw [if_pos z];exact one e
  rename_i z;rw [if_neg z]
  split at e
  · rename_i z;rw [if_pos z];exact one e
  rename_i z;rw [if_neg z]
  split at e
  · rename_i z;rw [if_pos z]
    split at e
    · rename_i a b d q1 q2 q3
      cases e
      obtain ⟨v1,h1,k1⟩:=h.look q1
      obtain ⟨v2,h2,k2⟩:=h.look q2
      obtain ⟨v3,h3,k3⟩:=h.look q3
      exact ⟨[v1,v2,v3],by rw [h1,h2,h3],.cons k1 (.cons k2 (.cons k3 .nil))⟩
    · cases e
  rename_i z;rw [if_neg z]
  split at e
  · rename_i z;rw [if_pos z];exact one e
  rename_i z;rw [if_neg z]
  split at e
  · rename_i z;rw [if_pos z];exact one e
  rename_i z;rw [if_neg z]
  split at e
  · rename_i z;rw [if_pos z]
    split at e
    · rename_i a b q1 q2
      cases e
      obtain ⟨v1,h1,k1⟩:=h.look q1
      obtain ⟨v2,h2,k2⟩:=h.look q2
      exact ⟨[v1,v2],by rw [h1,h2],.cons k1 (.cons k2 .nil)⟩
    · cases e
  rename_i z;rw [if_neg z]
  cases e
  exact ⟨[],rfl,.nil⟩
end
theorem ajE {α:Type} {c:Str} {fs:List (Str × α)} {xs:List α} (e:fieldsOf c fs=some xs):xs.length<=3:=by
  have one:∀ {f:Str} {xs:List α},(fs.lookup f).map (fun v=>[v])=some xs->xs.length<=3:=fun {f xs} z=>by
    cases q:fs.lookup f with
    | none=>rw [q] at z;cases z
    | some d=>rw [q] at z;cases z;simp
  unfold fieldsOf at e
  dsimp only at e
  split at e
  · exact one e
  split at e
  · exact one e
  split at e
  · exact one e
  split at e
  · exact one e
  split at e
  · exact one e
  split at e
  · exact one e
  split at e
  · split at e
    · cases e;simp
    · cases e
  split at e
  · exact one e
  split at e
  · exact one e
  split at e
  · split at e
    · cases e;simp
    · cases e
  cases e;simp
def TTask (K:PySem.W.Frag) (cs:List Value) (tl:XK->Hp->VK->Prop) (H:Hp) (Q:VK):Prop:=
  tl (fun cls d H'=>∃ C dx fs c xs,cls=.ref C/\d=some dx/\ErrC K cs C/\H' dx=some (.xd fs)/\fs.lookup ("code":Str)=some (V.str c)/\fieldsOf c fs=some xs/\∀ H2 l,Ex H' H2->H' l=none->H2 l=some (.tup (.str c::xs))->Q (.ref l) H2) H
    (fun v H'=>[V.str "",v].length<=sizeLine/\∀ l,H' l=none->Q (.ref l) (upd H' l (.tup [.str "",v])))
def AskTo (X:Cx) (Ng:List Str) (qg:Str) (sg:Scope) (g:Addr) (bg:List Stmt) (a q:Str) (TT:(XK->Hp->VK->Prop)->Hp->VK->Prop):Prop:=
  ∀ (cdg:Value) (f c':Addr) (s:Shared) (H:Hp) (Q:VK) (tl:XK->Hp->VK->Prop),
    (∀ (W:WX) (pn:List (Addr × Obj)) (xe:Value->Shared->Prop) (E:XK) (p1 p2:Pos),L2N.Takes ((gotC X Ng qg sg g cdg s H E0).tr pn xe) W->(∀ cls d (σ':L2.St) H',σ'.length=Ng.length->E cls d H'->W cls d σ' H')->
      PE ((gotC X Ng qg sg g cdg s H E0).tr pn xe) (.Call (.Name a p1) [] [] p2) (fun σZ HZ Q=>σZ[0]?=some (some (.ref f))/\HZ c'=some (LamX.CodeO c' q)/\tl E HZ Q))->
    H c'=some (LamX.CodeO c' q)->TT tl H Q->
    ∃ t,PSs (gotC X Ng qg sg g cdg s H E0) bg t/\t { nx:=fun _ H'=>Q .non H',rt:=Q } (L2.start Ng [.ref f]) H
def dAsk (K:PySem.W.Frag) (cs:List Value) (te:TD):TD:=fun sl Q _=>te sl (fun v s1=>match pubV v with
    | .d x=>Q (.d (.tup [.str "",x])) s1
    | _=>False)
  (fun cls fs s1=>∃ C c xs,cls=.ref C/\ErrC K cs C/\fs.lookup ("code":Str)=some (D.str c)/\fieldsOf c fs=some xs/\Q (.d (.tup (.str c::xs))) s1)
section
variable {X:Cx} {W:WX} {K:PySem.W.Frag} {cs:List Value} {x a:Str} {g c:Addr} {fdg:FuncData} {qg:Str} {pg:Arguments} {bg:List Stmt} {sg:Scope} {Ng xs:List Str} {params:Arguments} {body:Expr} {scope:Scope} {te:TD} {k:Nat} {p lpos pos:Pos}
theorem aoP (hg:Gl X x) (hm:X.mg x=some (.ref g)) (Fg:FunD X.K x qg pg bg sg [] [] g fdg) (Sg:FnScope Ng [a] sg) (hb:Binds X.K fdg [a] []) (hNg:Ng[0]?=some a) (hva:Vis sg a) (AK:AskTo X Ng qg sg g bg a (X.env.qual++"<lambda>") (TTask X.K cs))
    (hL:(c,He.tabOf X.K c,X.env.qual++"<lambda>")∈lamFns X.K) (TB:LamX.TabB X.base X.mg c (He.tabOf X.K c)) (hcode:X.env.code=.ref c) (hp:LamPar params xs) (L:LamN X.N X.env.scope scope xs) (hr:Room (k + 2) X.A) (hgd:X.A.guards=some [])
    (hbody:∀ (A:Around) (outer:List Env) (s:Shared) (H:Hp) (E:XK) (f c':Addr),Room k (A.deeper (LamX.lamEnv X scope s.heap.objs.size f c'))->A.guards=some []->DE (lamC X A outer s H E scope f c') (fun cls d _ H'=>E cls d H') body te)
    (hK:X.K=K:=by rfl) (hdb:(x == ("__debug__":Str))=false:=by decide) (hd:(a == ("__debug__":Str))=false:=by decide) (hcd:(a == ("__classdict__":Str))=false:=by decide) :
    DE X W (.Call (.Name x p) [.Lambda params body scope lpos] [] pos) (dAsk K cs te):=by
  subst hK
  refine ⟨fun pins s σ H R I h=>?_⟩
  obtain ⟨G,so,sl,Q,E,rep,q,hq,hx⟩:=h
  refine wpAny_Call_Name_kw (ld_glob I hg hm ?_ hdb)
  refine PySem.W.callWith_K (h₀:=X.base) I.ok.mod.kin Fg.kp ?_ (by rfl) (by rfl)
  show wpAny _ _ (spliced ((false,eval (.Lambda params body scope lpos) X.env)::backTo pos (starEach [] X.env))) _ _ s
  have hmem:=rep.h.ok.tb _ hL
  obtain ⟨gP,ps,hP,ht,ha⟩:TabOk G H (He.tabOf X.K c) (X.env.qual++"<lambda>"):=rep.h.vol _ _ hmem
  refine Calls.spliced_cons (alR hp I TB hcode hP ht (fun pos cv hc=>let ⟨c1,e1,e2⟩:=ha pos cv hc;⟨c1,e1,rep.h.ex _ _ e2⟩) (L.has I.ok) fun f c' H1 s' I1 gr la hco=>?_)
  obtain ⟨G1,post⟩:=ajv rep hmem hP gr
  refine Calls.spliced_nil ⟨I1.kIn,?_⟩
  obtain ⟨oc,od,dV,kV,doc,pm,an,cdv,ct,osl,rfl,lk,hcdI,_,_⟩:=Fg.ex
  have e0:=I1.env0
  have hbd:=hb s' [.ref f] I1.kIn rfl
  have hkind:(([a].zip [Value.ref f]).all fun y=>sg.names.lookup y.1 == some .local || sg.names.lookup y.1 == some .cell)=true:=by
    rw [List.all_eq_true]
    rintro ⟨n,u⟩ hy
    rcases Sg.par n (List.of_mem_zip hy).1 with z | z
    · show (sg.names.lookup n == some .local || _)=true
      rw [z];rfl
    · show (sg.names.lookup n == some .local || sg.names.lookup n == some .cell)=true
      rw [z];rfl
  have TT:TTask X.K cs (fun E H' Q'=>up X.K (fun cls d _ H'=>E cls d H') te σ H' Q') H1 R:=by
    refine ⟨G1,so,sl,_,_,post.rep,q,fun v H2 G2 dv s2 p2 q2=>⟨by show 2<=sizeLine;decide,fun l nl=>?_⟩,fun cls d H2 G2 fs s2 p2 xd q2=>?_⟩
    · obtain ⟨G3,p3⟩:=p2.pub
      split at q2
      · rename_i y ey
        rw [ey] at p3
        have vx:DOk X.K G3 v y:=p3.val
        refine hq _ _ _ _ s2 (post.thenE (p3.toPost.thenV (.tuple p3.rep.h nl (.cons (.str "") (.cons vx .nil))))) q2
      · exact q2.elim
    · obtain ⟨C,c0,ys,rfl,ec,lc,fc,q3⟩:=q2
      cases d with
      | none=>
        have z:fs=[]:=xd
        subst z;cases lc
      | some dx=>
        obtain ⟨vs,hv,fa⟩:=xd
        obtain ⟨v0,l1,l2⟩:=fa.look lc
        cases l2
        obtain ⟨xv,f1,f2⟩:=ajF fa fc
        refine ⟨C,dx,vs,c0,xv,rfl,rfl,ec,hv,l1,f1,fun H3 l ex nl tl=>?_⟩
        exact hq _ _ _ _ s2 (post.thenE (p2.thenV (PostV.tupleX p2.rep.h ex nl tl (.cons (.str c0) f2)))) q3
  have rc:codeAny (model X.prog X.w) X.A (.call (.ref g) ⟨[.ref f],[]⟩) (CR (L2N.CX X.prog X.w) X.stack X.prog X.w H1 s' R E0) s':=by
    refine Att.call_fn I1.kIn (e0.mod.nolimit.keeps fun b o e=>(e0.bs b o e).1) lk hcdI hr.depth hbd hkind (fun s2 x2=>?_) Sg.co Sg.gen Sg.kind
    have J:=inv_start (CX:=L2N.CX X.prog X.w) (E:=E0) (vs:=[.ref f]) Sg hr.hd e0 rfl (.cons rfl .nil) x2
    obtain ⟨t',pt,qt⟩:=AK cdv f c' s' H1 R (fun E H' Q'=>up X.K (fun cls d _ H'=>E cls d H') te σ H' Q') (fun W pn xe E p1 p2 tk hW=>aoh (i:=0) (tb:=up X.K (fun cls d _ H'=>E cls d H') te) hp I1 L la tk hW (hr.deeper _) hgd (fun A outer s H hr2 hg2=>hbody A outer s H E f c' hr2 hg2) hNg hva hd hcd) hco TT
    refine wpAny_mono (pt.run [] s2 _ H1 _ J qt) (fun fl s3 hs=>?_) fun e s3 hs=>hs
    cases fl with
    | ret u=>
      obtain ⟨v,σ',H',J',rv,z⟩:=hs
      exact ⟨v,H',J'.os,J'.bare,J'.base,J'.hok,rv,z⟩
    | next=>
      obtain ⟨σ',H',J',z⟩:=hs
      exact ⟨.non,H',J'.os,J'.bare,J'.base,J'.hok,rfl,z⟩
    | brk=>obtain ⟨_,_,_,z⟩:=hs;exact False.elim z
    | cont=>obtain ⟨_,_,_,z⟩:=hs;exact False.elim z
  refine wpAny_call (codeAny_mono rc fun r s3 z=>?_)
  cases r with
  | error e=>
    obtain ⟨_,_,_,_,_,_,_,_,_,_,_,_,y⟩:=z
    exact False.elim y
  | ok fl=>
    cases fl with
    | ret u=>exact I1.after z
    | next=>exact False.elim z
    | brk=>exact False.elim z
    | cont=>exact False.elim z
end
abbrev PQ:=(DV->Prop)->XE'->Prop
theorem no_see {ds:List D} {pre:List DV} (h:∀ v∈pre,∀ o,v≠.see o) (i:Nat) (o:OO):(pre++ds.map DV.d)[i]?≠some (.see o):=fun z=>by
  have m:=List.mem_of_getElem? z
  rcases List.mem_append.mp m with m | m
  · exact h _ m o rfl
  · obtain ⟨x,_,e⟩:=List.mem_map.mp m
    cases e
section
variable {P:Program} {w:World} {K:PySem.W.Frag} {mg:Str->Option Value} {base:Heap} {x qual:Str} {params:Arguments} {body:List Stmt} {scope:Scope} {dvs:List V} {kws:List (Str × V)} {fa:Addr} {fd:FuncData} {N:List Str} {k:Nat} {t:TDS}
abbrev BodyD (P:Program) (w:World) (K:PySem.W.Frag) (mg:Str->Option Value) (base:Heap) (N:List Str) (qual:Str) (scope:Scope) (fa:Addr) (k:Nat) (body:List Stmt) (t:TDS):Prop:=
  ∀ (cdv:Value) (A:Around) (outer:List Env) (s:Shared) (H:Hp) (E:XK),Room k (A.deeper (envOfC qual scope s.heap.objs.size fa cdv))->(cxOf (L2N.CX P w) P w K mg base N qual scope fa cdv A outer s H E).A.guards=some []->
    DSs (cxOf (L2N.CX P w) P w K mg base N qual scope fa cdv A outer s H E) (fun cls d _ H'=>E cls d H') body t
abbrev endsF (Q:DV->Prop) (E:XE'):EndsD:={ nx:=fun _=>Q (.d .non),rt:=fun v _=>retQ Q v,bk:=fun _=>False,ct:=fun _=>False,xc:=fun cls fs _=>E cls fs }
def sr0 (f:PQ):SpD:=fun args Q E=>args=[.src]/\f Q E
theorem aoE {f:PQ} {ps:Str} (F:FunD K x qual params body scope dvs kws fa fd) (S:FnScope N [ps] scope) (hd:BodyD P w K mg base N qual scope fa k body t) (hr:∀ Q E,f Q E->t (endsF Q E) (startD N [.src])):FnG P w K mg base (k + 1) fa fd [ps] (sr0 f):=
  aeb F S (by rintro _ Q E ⟨rfl,h⟩;rfl) (by rintro _ Q E ⟨rfl,h⟩;exact no_see (ds:=[]) (pre:=[.src]) (fun v h o=>by rw [List.mem_singleton.mp h];exact fun z=>by cases z)) hd (by rintro _ Q E ⟨rfl,h⟩;exact hr Q E h)
def sp1 (f:D->PQ):SpD:=fun args Q E=>∃ x0:D,args=[.d x0]/\f x0 Q E
theorem ac6 {f:D->PQ} {p0:Str} (F:FunD K x qual params body scope dvs kws fa fd) (S:FnScope N [p0] scope) (hd:BodyD P w K mg base N qual scope fa k body t) (hr:∀ x0 Q E,f x0 Q E->t (endsF Q E) (startD N [.d x0])):FnG P w K mg base (k + 1) fa fd [p0] (sp1 f):=
  aeb F S (by rintro _ Q E ⟨x0,rfl,h⟩;rfl) (by rintro _ Q E ⟨x0,rfl,h⟩;exact no_see (ds:=[x0]) (pre:=[]) (fun _ h=>by cases h)) hd (by rintro _ Q E ⟨x0,rfl,h⟩;exact hr x0 Q E h)
def sp2 (f:D->D->PQ):SpD:=fun args Q E=>∃ x0:D,∃ x1:D,args=[.d x0,.d x1]/\f x0 x1 Q E
theorem adi {f:D->D->PQ} {p0:Str} {p1:Str} (F:FunD K x qual params body scope dvs kws fa fd) (S:FnScope N [p0,p1] scope) (hd:BodyD P w K mg base N qual scope fa k body t) (hr:∀ x0 x1 Q E,f x0 x1 Q E->t (endsF Q E) (startD N [.d x0,.d x1])):FnG P w K mg base (k + 1) fa fd [p0,p1] (sp2 f):=
  aeb F S (by rintro _ Q E ⟨x0,x1,rfl,h⟩;rfl) (by rintro _ Q E ⟨x0,x1,rfl,h⟩;exact no_see (ds:=[x0,x1]) (pre:=[]) (fun _ h=>by cases h)) hd (by rintro _ Q E ⟨x0,x1,rfl,h⟩;exact hr x0 x1 Q E h)
def sp3 (f:D->D->D->PQ):SpD:=fun args Q E=>∃ x0:D,∃ x1:D,∃ x2:D,args=[.d x0,.d x1,.d x2]/\f x0 x1 x2 Q E
theorem akZ {f:D->D->D->PQ} {p0:Str} {p1:Str} {p2:Str} (F:FunD K x qual params body scope dvs kws fa fd) (S:FnScope N [p0,p1,p2] scope) (hd:BodyD P w K mg base N qual scope fa k body t) (hr:∀ x0 x1 x2 Q E,f x0 x1 x2 Q E->t (endsF Q E) (startD N [.d x0,.d x1,.d x2])):FnG P w K mg base (k + 1) fa fd [p0,p1,p2] (sp3 f):=
  aeb F S (by rintro _ Q E ⟨x0,x1,x2,rfl,h⟩;rfl) (by rintro _ Q E ⟨x0,x1,x2,rfl,h⟩;exact no_see (ds:=[x0,x1,x2]) (pre:=[]) (fun _ h=>by cases h)) hd (by rintro _ Q E ⟨x0,x1,x2,rfl,h⟩;exact hr x0 x1 x2 Q E h)
theorem anD {ps:List Str} {sp:Sp} (F:FunD K x qual params body scope dvs kws fa fd) (S:FnScope N ps scope) (len:∀ vs H Q E,sp vs H Q E->vs.length=ps.length)
    (hd:∀ (cdv:Value),fd.code=cdv->∀ (A:Around) (outer:List Env) (s:Shared) (H:Hp) (vs:List V) (Q:VK) (E:XK),Room k (A.deeper (envOfC qual scope s.heap.objs.size fa cdv))->(cxOf (L2N.CX P w) P w K mg base N qual scope fa cdv A outer s H E).A.guards=some []->sp vs H Q E->
      ∃ t,PSs (cxOf (L2N.CX P w) P w K mg base N qual scope fa cdv A outer s H E) body t/\t { nx:=fun _ H'=>Q .non H',rt:=Q } (L2.start N vs) H):FnR P w K mg base (k + 1) fa fd ps sp:=by
  obtain ⟨oc,od,dV,kV,doc,pm,an,cdv,ct,osl,e,lk,hcd,z1,z2⟩:=F.ex
  refine ⟨len,fun A outer s H args us vs Q E hroom hg e0 hb r hsp=>?_⟩
  have KX:K.In s.heap:=e0.mod.kin.keeps fun b o e=>(e0.bs b o e).1
  have lim:s.heap.NoLimit:=e0.mod.nolimit.keeps fun b o e=>(e0.bs b o e).1
  have hkind:((ps.zip us).all fun y=>scope.names.lookup y.1 == some .local || scope.names.lookup y.1 == some .cell)=true:=by
    rw [List.all_eq_true]
    rintro ⟨n,u⟩ hy
    rcases S.par n (List.of_mem_zip hy).1 with z | z
    · show (scope.names.lookup n == some .local || _)=true
      rw [z];rfl
    · show (scope.names.lookup n == some .local || scope.names.lookup n == some .cell)=true
      rw [z];rfl
  subst e
  refine Att.call_fn KX lim lk hcd hroom.depth hb hkind (fun s1 x=>?_) S.co S.gen S.kind
  have I:=inv_start (CX:=L2N.CX P w) (E:=E) S hroom.hd e0 (len _ _ _ _ hsp) r x
  obtain ⟨t,pt,qt⟩:=hd cdv rfl A outer s H vs Q E (hroom.deeper _) hg hsp
  refine wpAny_mono (pt.run [] s1 (L2.start N vs) H _ I qt) (fun fl s' hs=>?_) fun e s' hs=>hs
  cases fl with
  | ret u=>
    obtain ⟨v,σ',H',J,rv,z⟩:=hs
    exact ⟨v,H',J.os,J.bare,J.base,J.hok,rv,z⟩
  | next=>
    obtain ⟨σ',H',J,z⟩:=hs
    exact ⟨.non,H',J.os,J.bare,J.base,J.hok,rfl,z⟩
  | brk=>obtain ⟨_,_,_,z⟩:=hs;exact False.elim z
  | cont=>obtain ⟨_,_,_,z⟩:=hs;exact False.elim z
end
def lamNB (N:List Str) (sc scope:Scope) (xs:List Str):Bool:=
  decide (scope.kind=.function) && (!scope.isCoroutine && (!scope.isGenerator && ((scope.names.all fun y=>!decide (y.2=.cell) && ((!decide (y.2=.local) || !N.contains y.1) && (!decide (y.2=.free) || (decide (sc.names.lookup y.1=some .cell) || decide (sc.names.lookup y.1=some .free))))) && xs.all fun a=>decide (scope.names.lookup a=some .local))))
theorem akH {N:List Str} {sc scope:Scope} {xs:List Str} (h:lamNB N sc scope xs=true):LamN N sc scope xs:=by
  unfold lamNB at h
  simp only [Bool.and_eq_true,Bool.or_eq_true,Bool.not_eq_true',decide_eq_true_eq,decide_eq_false_iff_not,List.all_eq_true] at h
  obtain ⟨h1,h2,h3,h4,h5⟩:=h
  refine ⟨h1,h2,h3,fun y hy=>⟨(h4 y hy).1,fun e=>?_⟩,fun y hy e=>?_,h5⟩
  · rcases (h4 y hy).2.1 with z | z
    · exact absurd e z
    · intro m
      rw [<- Bool.not_eq_true,List.contains_iff_mem] at z
      exact z m
  · rcases (h4 y hy).2.2 with z | z
    · exact absurd e z
    · exact z
def isB:String->D->Bool
  | "int",.int _=>true
  | "int",.bl _=>true
  | "bool",.bl _=>true
  | "str",.str _=>true
  | "tuple",.tup _=>true
  | "tuple",.kt _=>true
  | "list",.lst _=>true
  | _,_=>false
def kinds:List String:=["int","bool","str","tuple","list"]
theorem akN {T:String} (hT:T∈kinds) {d:D} {t:String} (h:tyD d=some t):kitB t T=some (isB T d):=by
  simp only [kinds,List.mem_cons,List.not_mem_nil,or_false] at hT
  rcases hT with rfl | rfl | rfl | rfl | rfl<;>cases d<;>simp [tyD] at h<;>subst h<;>first | (show kitB _ _=some true;decide +kernel) | (show kitB _ _=some false;decide +kernel)
theorem ajD {Q:DV->Prop} {x:DV} {d:D} {T:String} (hx:x.dat=some d) (hk:kindD d=true) (hT:T∈kinds) (q:Q (.d (.bl (isB T d)))):isiR [x,.d (.raw (.ty T))] Q:=by
  obtain ⟨t,ht⟩:=Option.isSome_iff_exists.mp hk
  exact aoB hx ht (akN hT ht) q
def isBs (Ts:List String) (d:D):Bool:=Ts.any fun T=>isB T d
theorem ai3 {d:D} {t:String} (h:tyD d=some t):∀ {Ts:List String},(∀ T∈Ts,T∈kinds)->kitBs t Ts=some (isBs Ts d)
  | [],_=>rfl
  | T::Ts,hT=>by
    unfold kitBs
    rw [akN (hT T (List.mem_cons_self ..)) h,ai3 h fun z hz=>hT z (List.mem_cons_of_mem _ hz)]
    have e:isBs (T::Ts) d=(isB T d || isBs Ts d):=rfl
    rw [e]
    cases isB T d<;>rfl
theorem amo {Q:DV->Prop} {x:DV} {d:D} {ts:List D} {Ts:List String} (hx:x.dat=some d) (hk:kindD d=true) (h2:tysD ts=some Ts) (hT:∀ T∈Ts,T∈kinds) (q:Q (.d (.bl (isBs Ts d)))):isiTR [x,.d (.tup ts)] Q:=by
  obtain ⟨t,ht⟩:=Option.isSome_iff_exists.mp hk
  exact aov hx h2 ht (ai3 ht hT) q
def strsA:List Str->TA
  | []=>tNil
  | s::r=>tCons (tC (.str s)) (strsA r)
theorem aiJ {σ:L2.St} {H:Hp}:∀ (ss:List Str) {R:List V->Hp->Prop},R (ss.map V.str) H->strsA ss σ H R
  | [],_,h=>h
  | s::r,R,h=>aiJ (σ:=σ) r (R:=fun xs H2=>R (V.str s::xs) H2) h
theorem akU (c:Str):∀ ss:List Str,inV (.str c) (ss.map V.str)=decide (c∈ss)
  | []=>rfl
  | s::r=>by
    unfold inV
    rw [List.map_cons,List.any_cons]
    have ih:=akU c r
    unfold inV at ih
    rw [ih]
    show ((s == c) || decide (c∈r))=_
    by_cases e:s=c
    · subst e;simp
    · have e':¬ c=s:=fun z=>e z.symm
      have:(s == c)=false:=beq_eq_false_iff_ne.mpr e
      rw [this,Bool.false_or]
      simp [e']
section
variable {K:PySem.W.Frag} {p:Addr × Obj} {C dx:Addr} {fs:List (Str × V)} {c:Str} {σ:L2.St} {H:Hp}
theorem amI {f:Str} {v:V} {Q:VK} (px:PinX K p C dx) (no:PySem.W.findIn K (.ref C) f=some none) (hd:H dx=some (.xd fs)) (hσ:σ[0]?=some (some (.ref p.1))) (l:fs.lookup f=some v) (q:Q v H):tXfP K p f (tVar 0) σ H Q:=
  ⟨.ref p.1,hσ,rfl,C,dx,fs,v,px,no,hd,l,q⟩
theorem t_in (ss:List Str) {R:Bool->Hp->Prop} (px:PinX K p C dx) (no:PySem.W.findIn K (.ref C) "code"=some none) (hd:H dx=some (.xd fs)) (hσ:σ[0]?=some (some (.ref p.1))) (lc:fs.lookup ("code":Str)=some (.str c)) (hl:ss.length<=1000)
    (h:∀ l,H l=none->R (decide (c∈ss)) (upd H l (.tup (ss.map V.str)))):tTest (tOp (rIn K false) (tXfP K p "code" (tVar 0)) (tTup (strsA ss))) σ H R:=by
  show tXfP K p "code" (tVar 0) σ H (fun x H1=>tTup (strsA ss) σ H1 fun y H2=>rIn K false x y H2 fun x H'=>∃ k,x=.bl k/\R k H')
  refine amI px no hd hσ lc ?_
  refine aiJ ss ⟨by rw [List.length_map,sizeLine_eq];omega,fun l nl=>⟨l,ss.map V.str,rfl,.inr (SqT.of upd_same),rfl,?_,_,rfl,?_⟩⟩
  · rw [List.all_eq_true]
    intro v hv
    obtain ⟨s,_,rfl⟩:=List.mem_map.mp hv
    rfl
  · have e:(if false=true then !inV (.str c) (ss.map V.str) else inV (.str c) (ss.map V.str))=decide (c∈ss):=by rw [if_neg Bool.false_ne_true];exact akU c ss
    rw [e]
    exact h l nl
theorem t_eq (s:Str) {R:Bool->Hp->Prop} (px:PinX K p C dx) (no:PySem.W.findIn K (.ref C) "code"=some none) (hd:H dx=some (.xd fs)) (hσ:σ[0]?=some (some (.ref p.1))) (lc:fs.lookup ("code":Str)=some (.str c)) (h:R (decide (c=s)) H) :
    tTest (tOp rEq (tXfP K p "code" (tVar 0)) (tC (.str s))) σ H R:=by
  show tXfP K p "code" (tVar 0) σ H (fun x H1=>rEq x (.str s) H1 fun x H'=>∃ k,x=.bl k/\R k H')
  refine amI px no hd hσ lc ⟨rfl,_,rfl,?_⟩
  rw [decS];exact h
end
abbrev XTxt:=Arguments × List Stmt × Scope
structure XSpec where
  name:Str
  base:Nat
  flds:List Str
  text:XTxt
def xBase:Nat->String × String × String × List Value
  | 0=>("ValueError","ValueError.__new__","ValueError.__init__",[.type "ValueError",.type "Exception",.type "BaseException",.type "object"])
  | 1=>("LookupError","LookupError.__new__","LookupError.__init__",[.type "LookupError",.type "Exception",.type "BaseException",.type "object"])
  | _=>("IndexError","IndexError.__new__","IndexError.__init__",[.type "IndexError",.type "LookupError",.type "Exception",.type "BaseException",.type "object"])
theorem alm (n:Nat):ExBase (xBase n).1 (xBase n).2.1 (xBase n).2.2.1 (xBase n).2.2.2:=by
  match n with
  | 0=>exact ⟨PySem.F.excBase_ValueError,PySem.W.kxs_ValueError,PySem.F.store_ValueError⟩
  | 1=>exact ⟨PySem.F.excBase_LookupError,PySem.W.kxs_LookupError,PySem.F.store_LookupError⟩
  | n + 2=>exact ⟨PySem.F.excBase_IndexError,PySem.W.kxs_IndexError,PySem.F.store_IndexError⟩
def initAt (K:PySem.W.Frag) (C:Addr):Addr:=match PySem.W.findIn K (.ref C) "__init__" with
  | some (some (.ref f))=>f
  | _=>0
def exObs (K:PySem.W.Frag) (C:Addr):Option XTxt:=match K.lookup (initAt K C) with
  | some ⟨_,_,.func fd,_⟩=>(match fd.body with
    | .stmts b=>some (fd.params,b,fd.scope)
    | _=>none)
  | _=>none
def nonV:Value->Bool
  | .none=>true
  | _=>false
theorem akq {v:Value} (h:nonV v=true):v=.none:=by cases v<;>first | rfl | cases h
def fnShape (K:PySem.W.Frag) (file:Str) (fI C:Addr):Bool:=match K.lookup fI with
  | some ⟨_,_,.func fd,_⟩=>decide (fd.globals=mainGlobals) && (decide (fd.builtins=builtinsNs) && (nonV fd.defaults && (nonV fd.kwdefaults && (match fd.closure,fd.code with
    | [(x,cc)],.ref cda=>decide (x="__class__") && (PySem.W.codeIn K (.ref cda) fd.qualname && ((match K.lookup cda with
        | some ⟨_,_,.fields vs,_⟩=>(match (vs[2]? : Option Value) with
          | some (.str f _)=>decide (f=file)
          | _=>false)
        | _=>false) && (match K.lookup cc with
        | some ⟨_,_,.cell (some (.ref D)),_⟩=>decide (D=C)
        | _=>false)))
    | _,_=>false))))
  | _=>false
theorem alv {K:PySem.W.Frag} {file:Str} {C:Addr} {params:Arguments} {body:List Stmt} {scope:Scope} (h:fnShape K file (initAt K C) C=true) (e:exObs K C=some (params,body,scope)) :
    ∃ (oc:Value) (od:Option Addr) (osl:Array (Option Value)) (name qual:Str) (doc pm:Value) (an:Option Addr) (cda cc:Addr) (ct:Value) (vs:Array Value) (tf:Tok) (ccl cl:Value) (cdd cld:Option Addr) (ccs csl:Array (Option Value)),
    K.lookup (initAt K C)=some ⟨oc,od,.func (PySem.W.ksFn name qual params body scope .none .none doc pm an (.ref cda) ct cc),osl⟩/\PySem.W.codeIn K (.ref cda) qual=true/\K.lookup cda=some ⟨ccl,cdd,.fields vs,ccs⟩/\vs[2]?=some (.str file tf)/\K.lookup cc=some ⟨cl,cld,.cell (some (.ref C)),csl⟩:=by
  unfold fnShape at h
  unfold exObs at e
  split at h
  · rename_i oc od fd osl lk
    rw [lk] at e
    obtain ⟨nm,ql,pr,bd,sc,gl,cl,df,kd,doc,pm,an,cd,ct,bn⟩:=fd
    dsimp only at h e
    obtain ⟨h1,h⟩:=He.ba h
    obtain ⟨h2,h⟩:=He.ba h
    obtain ⟨h3,h⟩:=He.ba h
    obtain ⟨h4,h⟩:=He.ba h
    split at h
    · rename_i x cc cda
      obtain ⟨h5,h⟩:=He.ba h
      obtain ⟨h6,h⟩:=He.ba h
      obtain ⟨h7,h8⟩:=He.ba h
      split at e
      · rename_i b
        cases e
        have e1:=of_decide_eq_true h1
        have e2:=of_decide_eq_true h2
        have e5:=of_decide_eq_true h5
        have e3:=akq h3
        have e4:=akq h4
        subst e1 e2 e3 e4 e5
        split at h7
        · rename_i ccl cdd vs ccs lkc
          split at h7
          · rename_i f tf hv
            have e7:=of_decide_eq_true h7
            subst e7
            split at h8
            · rename_i cl cld D csl lcc
              have e8:=of_decide_eq_true h8
              subst e8
              exact ⟨_,_,_,_,_,_,_,_,_,_,_,_,_,_,_,_,_,_,_,lk,h6,lkc,hv,lcc⟩
            · cases h8
          · cases h7
        · cases h7
      · cases e
    · cases h
  · cases h
def csA (K:PySem.W.Frag):List Value:=[.ref (He.ga K "MilesError"),.ref (He.ga K "Missing"),.ref (He.ga K "NothingLeft")]
def xB (K:PySem.W.Frag) (file:Str) (ask:Bool) (e:XSpec):Bool:=
  let C:=He.ga K e.name
  let b:=xBase e.base
  decide (PySem.W.findIn K (.ref C) "__setattr__"=some (some (.builtin "object.__setattr__"))) &&
  (PySem.W.excOver K C b.2.2.2 &&
  (PySem.W.hasDictIn K C &&
  (PySem.W.excInitIn K C b.2.2.2 b.2.1 &&
  (decide (PySem.W.findIn K (.ref C) "__init__"=some (some (.ref (initAt K C)))) &&
  (decide (PySem.W.typeIn K (.ref (initAt K C))=some (.type "function")) &&
  (decide (PySem.W.ks_superIn K C C "__init__"=some (some (.builtin b.2.2.1))) &&
  (decide (PySem.W.subIn K (.ref C) (.type b.1)=some true) &&
  (decide (PySem.W.mroIn K C (.ref C)=some true) &&
  (decide (PySem.W.subIn K (.ref C) (.type "BaseException")=some true) &&
  (decide (PySem.W.typeIn K (.ref C)=some (.type "type")) &&
  (PySem.W.keepIn K (.ref C) &&
  (decide (PySem.W.nsIn K cStatics "thirdparty.any"=some none) &&
  (fnShape K file (initAt K C) C &&
  ((e.flds.all fun f=>decide (PySem.W.takerIn K C f=some none)) &&
  (!ask || (xfB K C &&
  ((errFields.all fun f=>decide (PySem.W.findIn K (.ref C) f=some none)) && decide (PySem.W.exmAny K (.ref C) (csA K)=some true))))))))))))))))))
structure XOk' (K:PySem.W.Frag) (file:Str) (ask:Bool) (e:XSpec):Prop where
  k:ExK K file (He.ga K e.name) (initAt K (He.ga K e.name)) e.text.1 e.text.2.1 e.text.2.2 (xBase e.base).1 (xBase e.base).2.1 (xBase e.base).2.2.1 (xBase e.base).2.2.2
  t:∀ f∈e.flds,PySem.W.takerIn K (He.ga K e.name) f=some none
  r:ask=true->ErrC K (csA K) (He.ga K e.name)
theorem xB_ok {K:PySem.W.Frag} {file:Str} {ask:Bool} {e:XSpec} (h:xB K file ask e=true) (ht:exObs K (He.ga K e.name)=some e.text):XOk' K file ask e:=by
  unfold xB at h
  dsimp only at h
  obtain ⟨h1,h⟩:=He.ba h
  obtain ⟨h2,h⟩:=He.ba h
  obtain ⟨h3,h⟩:=He.ba h
  obtain ⟨h4,h⟩:=He.ba h
  obtain ⟨h5,h⟩:=He.ba h
  obtain ⟨h6,h⟩:=He.ba h
  obtain ⟨h7,h⟩:=He.ba h
  obtain ⟨h8,h⟩:=He.ba h
  obtain ⟨h9,h⟩:=He.ba h
  obtain ⟨h10,h⟩:=He.ba h
  obtain ⟨h11,h⟩:=He.ba h
  obtain ⟨h12,h⟩:=He.ba h
  obtain ⟨h13,h⟩:=He.ba h
  obtain ⟨h14,h⟩:=He.ba h
  obtain ⟨h15,h16⟩:=He.ba h
  refine ⟨⟨⟨of_decide_eq_true h1,h2,h3⟩,h4,of_decide_eq_true h5,of_decide_eq_true h6,of_decide_eq_true h7,of_decide_eq_true h8,of_decide_eq_true h9,of_decide_eq_true h10,of_decide_eq_true h11,h12,of_decide_eq_true h13,alv h14 ht⟩,fun f hf=>of_decide_eq_true (List.all_eq_true.mp h15 f hf),fun ha=>?_⟩
  rw [ha] at h16
  obtain ⟨z1,z⟩:=He.ba (show (xfB K (He.ga K e.name) && _)=true from h16)
  obtain ⟨z2,z3⟩:=He.ba z
  exact ⟨xfB_ok z1,fun f hf=>of_decide_eq_true (List.all_eq_true.mp z2 f hf),of_decide_eq_true z3⟩
theorem XOk'.cls {K:PySem.W.Frag} {file:Str} {ask:Bool} {e:XSpec} {P:Program} {mg:Str->Option Value} {self:Str} {ps:List Str} {fs:List (Str × (Str ⊕ Str))} (h:XOk' K file ask e) (T:ExT e.text.2.1 e.text.1 e.text.2.2 self ps fs) (hf:((P.main.file:Str) == file)=true) (ht:(P.main.scope.names.lookup ("super":Str)).isSome=false)
    (hb:∀ (e':Addr) (us:List Value),us.length=ps.length->∀ (name qual:Str) (doc pm:Value) (an:Option Addr) (cda ct:Value) (cc:Addr),bindArgs (PySem.W.ksFn name qual e.text.1 e.text.2.1 e.text.2.2 .none .none doc pm an cda ct cc) ⟨.ref e'::us,[]⟩=pure ((self::ps).zip (.ref e'::us)))
    (hfl:∀ f∈fs,f.1∈e.flds) (ne:∀ vs,xdV ps fs vs≠[]) (su:mg ("super":Str)=none) (ln:ps.length<=1000):XCls P K mg (He.ga K e.name) ps fs:=
  ⟨⟨file,_,_,_,_,_,_,_,_,self,alm _,h.k,T,hf,ht,hb⟩,fun f hf=>h.t f.1 (hfl f hf),ne,su,h.k.kC,ln⟩
structure LY extends LX where
  file:Str
  ask:Bool
  ex:List XSpec
abbrev AlY:Type:=Bool × He.AlD × List (Option XTxt)
def LY.ok (l:LY) (g:Addr->Option Obj) (K:PySem.W.Frag):Bool:=l.toLX.ok g K && l.ex.all fun e=>xB K l.file l.ask e
def valY (l:LY) (fn:List He.DefD):AlY:=(true,He.valD fn,l.ex.map fun e=>some e.text)
structure SaysY (l:LY) (fa:List He.Fa) (fn:List He.DefD) (h:Heap) (K:PySem.W.Frag):Prop extends SaysX l.toLX fa fn h K where
  x:∀ e∈l.ex,XOk' K l.file l.ask e
def wtK (b:Nat):Key->Nat
  | .inl _=>b + 1
  | .inr z=>10 * z.length + 2
def FineK (b:Nat):Key->Prop
  | .inl i=>i.natAbs < 10 ^ b
  | .inr z=>∀ c∈z.cps.toList,c < 0x110000
def wtKs (b:Nat):List Key->Nat
  | []=>0
  | k::r=>wtK b k + 2 + wtKs b r
mutual
def wt (b:Nat):D->Nat
  | .int _=>b + 1
  | .str z=>10 * z.length + 2
  | .lst ds=>wts b ds + 3
  | .tup ds=>wts b ds + 3
  | .kt ks=>wtKs b ks + 3
  | _=>5
def wts (b:Nat):List D->Nat
  | []=>0
  | d::r=>wt b d + 2 + wts b r
end
mutual
def dep:D->Nat
  | .lst ds=>deps ds + 1
  | .tup ds=>deps ds + 1
  | .kt _=>1
  | _=>0
def deps:List D->Nat
  | []=>0
  | d::r=>max (dep d) (deps r)
end
mutual
def Fine (b:Nat):D->Prop
  | .int i=>i.natAbs < 10 ^ b
  | .str z=>∀ c∈z.cps.toList,c < 0x110000
  | .lst ds=>Fines b ds
  | .tup ds=>Fines b ds
  | .non=>True
  | .bl _=>True
  | .ins _ _=>False
  | .dk _=>False
  | .dt _=>False
  | .any=>False
  | .raw _=>False
  | .kt ks=>∀ k∈ks,FineK b k
def Fines (b:Nat):List D->Prop
  | []=>True
  | d::r=>Fine b d/\Fines b r
end
theorem Shw.intN {i:Int} {b:Nat} (hk:0 < b) (h2:b<=500) (h:i.natAbs < 10 ^ b):Shw 0 (b + 1) (.int i) (.int i):=by
  refine ⟨rfl,by simp [PyData.canLay0],by simp [PyData.depth],?_,?_⟩
  · simp only [PyData.showable]
    refine decide_eq_true ?_
    rcases Nat.eq_zero_or_pos i.natAbs with z | z
    · rw [z];decide
    refine (Nat.log2_lt (by omega)).mpr ?_
    refine Nat.lt_of_lt_of_le h (Nat.le_trans (Nat.pow_le_pow_right (by decide) h2) ?_)
    decide +kernel
  · simp only [PyData.shown]
    rcases Int.lt_or_le i 0 with z | z
    · have e:i=-((i.natAbs:Nat):Int):=by omega
      have h0:(toString (i.natAbs:Int):Str).length<=b:=toString_length_le (by omega) hk (by
        have:((i.natAbs:Nat):Int) < ((10 ^ b:Nat):Int):=Int.ofNat_lt.mpr h
        simpa using this)
      rw [e]
      generalize hm:i.natAbs=m at *
      cases m with
      | zero=>omega
      | succ m=>
        have e2:(toString (-((m + 1:Nat):Int)):String)="-"++toString ((m + 1:Nat):Int):=rfl
        have e3:((toString (-((m + 1:Nat):Int)):String):Str).length=((toString ((m + 1:Nat):Int):String):Str).length + 1:=by
          rw [e2,PySem.ofString_length,PySem.ofString_length,String.length_append]
          have:("-":String).length=1:=rfl
          omega
        rw [e3]
        omega
    · have:=toString_length_le z hk (v:=i) (by
        have:((i.natAbs:Nat):Int) < ((10 ^ b:Nat):Int):=Int.ofNat_lt.mpr h
        rw [Int.natAbs_of_nonneg z] at this
        simpa using this)
      omega
structure ShwS (n L:Nat) (ds:List D) (ps:List PyData):Prop where
  py:D.pyAll ds=some ps
  lay:PyData.canLayAll0 ps=true
  dp:PyData.depthAll ps<=n
  sw:PyData.showableAll ps=true
  ln:((PyData.shownAll ps).map fun t=>t.length + 2).sum<=L
theorem ae0:∀ (ts:List Str) (k:Nat) (acc:Str),(PySem.textFrom k acc ts).length<=acc.length + (ts.map fun t=>t.length + 2).sum
  | [],k,acc=>by show acc.length<=_;simp
  | t::r,k,acc=>by
    have h1:=ae0 r (k + 1) (acc++(if k > 0 then ", " else "":String)++t)
    have e:(acc++(if k > 0 then ", " else "":String)++t).length=acc.length + (if k > 0 then 2 else 0) + t.length:=by
      rw [strLen_append,strLen_append]
      split<;>rfl
    rw [e] at h1
    show (PySem.textFrom (k + 1) (acc++(if k > 0 then ", " else "":String)++t) r).length<=_
    rw [List.map_cons,List.sum_cons]
    have h3:(if k > 0 then 2 else 0)<=2:=by split<;>omega
    omega
theorem ai5:∀ ts:List Str,(Str.join ", " ts).length<=(ts.map fun t=>t.length + 2).sum
  | []=>by show 0<=_;omega
  | [x]=>by show x.length<=x.length + 2 + 0;omega
  | x::y::r=>by
    have h1:=ai5 (y::r)
    show (x++", "++Str.join ", " (y::r)).length<=_
    rw [strLen_append,strLen_append,List.map_cons,List.sum_cons]
    have e2:((", ":String):Str).length=2:=rfl
    omega
theorem ShwS.lst {n L:Nat} {ds:List D} {ps:List PyData} (h:ShwS n L ds ps):Shw (n + 1) (L + 3) (.lst ds) (.list ps):=by
  refine ⟨by unfold D.py;rw [h.py];rfl,by unfold PyData.canLay0;exact h.lay,by unfold PyData.depth;have:=h.dp;omega,by unfold PyData.showable;exact h.sw,?_⟩
  unfold PyData.shown listText
  rw [strLen_append]
  have:=ae0 (PyData.shownAll ps) 0 "["
  have e1:(("[":String):Str).length=1:=rfl
  have e2:(("]":String):Str).length=1:=rfl
  have:=h.ln
  omega
theorem ShwS.tup {n L:Nat} {ds:List D} {ps:List PyData} (h:ShwS n L ds ps):Shw (n + 1) (L + 3) (.tup ds) (.tuple ps):=by
  refine ⟨by unfold D.py;rw [h.py];rfl,by unfold PyData.canLay0;exact h.lay,by unfold PyData.depth;have:=h.dp;omega,by unfold PyData.showable;exact h.sw,?_⟩
  unfold PyData.shown tupleText
  rw [strLen_append,strLen_append]
  have e1:(("(":String):Str).length=1:=rfl
  have e2:((if (PyData.shownAll ps).length == 1 then ",)" else ")":String):Str).length<=2:=by split<;>decide
  have e3:=ai5 (PyData.shownAll ps)
  have:=h.ln
  omega
section
variable {b:Nat} (hb:0 < b) (h5:b<=500)
include hb h5
theorem ahW:∀ ks:List Key,(∀ k∈ks,FineK b k)->ShwS 0 (wtKs b ks) (ks.map keyD) (ks.map keyPy)
  | [],_=>⟨by simp [D.pyAll],by simp [PyData.canLayAll0],by simp [PyData.depthAll],by simp [PyData.showableAll],by simp [PyData.shownAll]⟩
  | k::r,h=>by
    have e1:Shw 0 (wtK b k) (keyD k) (keyPy k):=by
      have hk:=h k (List.mem_cons_self ..)
      cases k with
      | inl i=>exact Shw.intN hb h5 hk
      | inr z=>exact Shw.str hk (Nat.le_refl _)
    have e2:=ahW r fun x hx=>h x (List.mem_cons_of_mem _ hx)
    refine ⟨?_,?_,?_,?_,?_⟩
    · rw [List.map_cons,List.map_cons];unfold D.pyAll;rw [e1.py,e2.py]
    · rw [List.map_cons];unfold PyData.canLayAll0;rw [e1.lay,e2.lay];rfl
    · rw [List.map_cons];unfold PyData.depthAll
      have:=e1.dp;have:=e2.dp
      omega
    · rw [List.map_cons];unfold PyData.showableAll;rw [e1.sw,e2.sw];rfl
    · rw [List.map_cons];unfold PyData.shownAll;rw [wtKs,List.map_cons,List.sum_cons]
      have:=e1.ln;have:=e2.ln
      omega
mutual
theorem ag6:∀ d:D,Fine b d->∃ p,Shw (dep d) (wt b d) d p
  | .non,_=>⟨_,Shw.non.mono (Nat.le_refl _) (by show 4<=5;omega)⟩
  | .bl x,_=>⟨_,Shw.bl x⟩
  | .int i,h=>⟨_,Shw.intN hb h5 (by simpa only [Fine] using h)⟩
  | .str z,h=>⟨_,Shw.str (by simpa only [Fine] using h) (Nat.le_refl _)⟩
  | .lst ds,h=>let ⟨ps,e⟩:=afV ds (by simpa only [Fine] using h);⟨_,(by simpa only [dep,wt] using e.lst)⟩
  | .tup ds,h=>let ⟨ps,e⟩:=afV ds (by simpa only [Fine] using h);⟨_,(by simpa only [dep,wt] using e.tup)⟩
  | .ins _ _,h=>by simp [Fine] at h
  | .dk _,h=>by simp [Fine] at h
  | .dt _,h=>by simp [Fine] at h
  | .any,h=>by simp [Fine] at h
  | .raw _,h=>by simp [Fine] at h
  | .kt ks,h=>by
    have h':∀ k∈ks,FineK b k:=by simpa only [Fine] using h
    have z:=(ahW hb h5 ks h').tup
    exact ⟨_,⟨by rw [D.py],z.lay,by rw [dep];exact z.dp,z.sw,by rw [wt];exact z.ln⟩⟩
theorem afV:∀ ds:List D,Fines b ds->∃ ps,ShwS (deps ds) (wts b ds) ds ps
  | [],_=>⟨[],by simp [D.pyAll],by simp [PyData.canLayAll0],by simp [PyData.depthAll],by simp [PyData.showableAll],by simp [PyData.shownAll]⟩
  | d::r,h=>by
    rw [Fines] at h
    obtain ⟨p,e1⟩:=ag6 d h.1
    obtain ⟨ps,e2⟩:=afV r h.2
    refine ⟨p::ps,?_,?_,?_,?_,?_⟩
    · unfold D.pyAll;rw [e1.py,e2.py]
    · unfold PyData.canLayAll0;rw [e1.lay,e2.lay];rfl
    · unfold PyData.depthAll;rw [deps]
      have:=e1.dp;have:=e2.dp
      omega
    · unfold PyData.showableAll;rw [e1.sw,e2.sw];rfl
    · unfold PyData.shownAll;rw [wts,List.map_cons,List.sum_cons]
      have:=e1.ln;have:=e2.ln
      omega
end
theorem alV {ds:List D} (h:Fines b ds) (h1:deps ds<=60) (h2:wts b ds<=16000000):∃ p,Shows (.tup ds) p:=by
  obtain ⟨p,e⟩:=ag6 hb h5 (.tup ds) (by simpa only [Fine] using h)
  refine ⟨p,e.shows (.inr ⟨_,rfl⟩) (by rw [dep];omega) (by rw [wt];have:szl=16777216:=rfl;omega)⟩
end
theorem fcons {b:Nat} {d:D} {r:List D} (h:Fine b d) (t:Fines b r):Fines b (d::r):=by rw [Fines];exact ⟨h,t⟩
theorem fint {b:Nat} {i:Int} (h:i.natAbs < 10 ^ b):Fine b (.int i):=by rw [Fine];exact h
theorem fstr {b:Nat} {z:Str} (h:∀ c∈z.cps.toList,c < 0x110000:=by decide +kernel):Fine b (.str z):=by rw [Fine];exact h
theorem fnon {b:Nat}:Fine b .non:=by simp [Fine]
theorem fbl {b:Nat} {x:Bool}:Fine b (.bl x):=by simp [Fine]
theorem ftup {b:Nat} {ds:List D} (h:Fines b ds):Fine b (.tup ds):=by rw [Fine];exact h
theorem flst {b:Nat} {ds:List D} (h:Fines b ds):Fine b (.lst ds):=by rw [Fine];exact h
theorem alA (b:Nat) {Q:DV->Prop} {E:XE'} {ds es:List D} (he:ds=es) (h:Fines b es) (q:Q (.d (.bl true))) (h1:deps es<=60:=by first | decide | exact Nat.le_of_ble_eq_true rfl) (h2:wts b es<=16000000:=by first | decide | exact Nat.le_of_ble_eq_true rfl) (hb:0 < b:=by decide) (h5:b<=500:=by decide):spSame [.d (.tup ds),.d (.tup es)] Q E:=by
  subst he
  obtain ⟨p,s⟩:=alV hb h5 h h1 h2
  exact aj4 s q
def kinds6:List String:=["NoneType","bool","int","str","list","tuple"]
def numB (K:PySem.W.Frag) (C:Addr):Bool:=(match PySem.W.clsIn K C with
  | some cd=>(match cd.mro with
    | x::_=>decide (x=.ref C)
    | []=>false)
  | none=>false) && (decide (PySem.W.findIn K (.ref C) "__rmul__"=some none) && decide (PySem.W.findIn K (.ref C) "__radd__"=some none))
structure CInst (K:PySem.W.Frag) (C:Addr):Prop where
  cl:Cls K C
  gc:PySem.W.findIn K (.ref C) "__class__"=some (some (.builtin "object.__class__"))
  gs:PySem.W.specialIn K (.builtin "object.__class__") "__get__"=some (some (.builtin "getset_descriptor.__get__"))
  gt:PySem.W.takesIn K (.builtin "object.__class__")=some true
  mo:PySem.W.mroIn K C (.type "object")=some true
  own:PySem.W.kitOne K (.ref C) (.ref C)=some true
  no:∀ t∈kinds6,PySem.W.kitOne K (.type t) (.ref C)=some false
  ty:∀ t∈kinds6,PySem.W.kitOne K (.ref C) (.type t)=some false
  sub:∀ t∈kinds6,PySem.W.subIn K (.type t) (.ref C)=some false
  ne:PySem.W.findIn K (.ref C) "__ne__"=some (some (.builtin "object.__ne__"))
  nu:numB K C=true
def cB (K:PySem.W.Frag) (C:Addr):Bool:=numB K C && (
  decide (PySem.W.plainGet K C Str.empty=true) && (PySem.W.hasDictIn K C && (PySem.W.plainOver K C && (decide (PySem.W.findIn K (.ref C) "__setattr__"=some (some (.builtin "object.__setattr__"))) &&
  (decide (PySem.W.findIn K (.ref C) "__class__"=some (some (.builtin "object.__class__"))) &&
  (decide (PySem.W.specialIn K (.builtin "object.__class__") "__get__"=some (some (.builtin "getset_descriptor.__get__"))) &&
  (decide (PySem.W.takesIn K (.builtin "object.__class__")=some true) &&
  (decide (PySem.W.mroIn K C (.type "object")=some true) &&
  (decide (PySem.W.kitOne K (.ref C) (.ref C)=some true) &&
  ((kinds6.all fun t=>decide (PySem.W.kitOne K (.type t) (.ref C)=some false)) &&
  ((kinds6.all fun t=>decide (PySem.W.kitOne K (.ref C) (.type t)=some false)) &&
  ((kinds6.all fun t=>decide (PySem.W.subIn K (.type t) (.ref C)=some false)) &&
  decide (PySem.W.findIn K (.ref C) "__ne__"=some (some (.builtin "object.__ne__")))))))))))))))
theorem cB_ok {K:PySem.W.Frag} {C:Addr} (h:cB K C=true):CInst K C:=by
  unfold cB at h
  obtain ⟨h0,h⟩:=He.ba h
  obtain ⟨h1,h⟩:=He.ba h
  obtain ⟨h2,h⟩:=He.ba h
  obtain ⟨h3,h⟩:=He.ba h
  obtain ⟨h4,h⟩:=He.ba h
  obtain ⟨h5,h⟩:=He.ba h
  obtain ⟨h6,h⟩:=He.ba h
  obtain ⟨h7,h⟩:=He.ba h
  obtain ⟨h8,h⟩:=He.ba h
  obtain ⟨h9,h⟩:=He.ba h
  obtain ⟨h10,h⟩:=He.ba h
  obtain ⟨h11,h⟩:=He.ba h
  obtain ⟨h12,h13⟩:=He.ba h
  exact ⟨⟨of_decide_eq_true h1,h2,h3,of_decide_eq_true h4⟩,of_decide_eq_true h5,of_decide_eq_true h6,of_decide_eq_true h7,of_decide_eq_true h8,of_decide_eq_true h9,fun t ht=>of_decide_eq_true (List.all_eq_true.mp h10 t ht),
    fun t ht=>of_decide_eq_true (List.all_eq_true.mp h11 t ht),fun t ht=>of_decide_eq_true (List.all_eq_true.mp h12 t ht),of_decide_eq_true h13,h0⟩
section
variable {K:PySem.W.Frag} {G H:Hp} {so:So} {v:V} {dv:DV} {C:Addr} {fs:List (Str × D)}
end
section
variable {X:Cx} {k:Nat} {f C:Addr} {fd:FuncData} {ps:List Str} {sp:SpD}
theorem amX {pins:List (Addr × Obj)} {σ:L2.St} {H:Hp} {s:Shared} {Q:VK} {A:Around} {us:List Value} {vs:List V} (F:FnG X.prog X.w X.K X.mg X.base k f fd ps sp) (hr:Room k A) (hg:A.guards=some []) (hf:A.frames=X.A.frames) (hb:Binds X.K fd ps [])
    (I:Inv X pins σ H s) (r:Vals vs us) (q:upSp X.K sp vs H Q fun _ _ _=>False) :
    wpAny (model X.prog X.w) A (call (.ref f) us) (EP X pins σ Q) X.xe s:=by
  have e:=I.env0
  have e0:Env0 X.prog X.w X.K X.mg X.base A X.stack s H:=⟨by rw [hf];exact e.frames,e.mod,e.bs,e.bsz,e.funs,e.frf,e.hok,e.bare⟩
  have hl:us.length=ps.length:=by
    obtain ⟨G,so,as,QD,ED,h,w,z,_⟩:=q
    rw [<- r.length,w.length]
    exact F.len _ _ _ z
  refine wpAny_call (codeAny_mono (F.run A X.stack s H ⟨us,[]⟩ us vs Q (fun _ _ _=>False) hr hg e0 (by
    have:=hb s us I.kIn (by simpa using hl)
    simpa using this) r q) fun r s' hz=>?_)
  cases r with
  | error e=>
    obtain ⟨a,B,H',cls,d,_,_,_,_,_,_,_,z⟩:=hz
    exact z.elim
  | ok fl=>
    cases fl with
    | ret u=>exact I.after hz
    | next=>exact False.elim hz
    | brk=>exact False.elim hz
    | cont=>exact False.elim hz
end
section
variable {M:Model} {prog:Program} {w:World} {A:Around} {E:Value->Shared->Prop} {s:Shared} {K:PySem.W.Frag} {x C f L:Addr} {ox:Obj} {od:Option Obj} {h₀:Heap} {m:Str->Option Value} {b tb:Value}
end
section
variable {X:Cx} {k:Nat} {f C:Addr} {fd:FuncData} {ps:List Str} {sp:SpD}
end
section
variable {X:Cx} {W:WX} {e:Expr} {es:List Expr} {te:TD} {tr:TDA} {p pos:Pos}
end
section
variable {X:Cx} {W:WX} {k:Nat} {C p g:Addr} {f:Str} {fd:FuncData} {ps:List Str} {sp:SpD} {e:Expr} {te:TD} {pos:Pos}
theorem getprop {pins:List (Addr × Obj)} {σ:L2.St} {H:Hp} {s:Shared} {Q:VK} {b:Bool} {a dx:Addr} {fs:List (Str × V)} (I:Inv X pins σ H s) (ea:H a=some (.ins C dx fs)) (c:Cls X.K C) (hp:PropOf X.K C f p g) (F:FnG X.prog X.w X.K X.mg X.base k g fd ps sp) (hr:Room (k + 1) X.A) (hg:X.A.guards=some [])
    (hb:Binds X.K fd ps []) (h:upSp X.K sp [.ref a] H Q fun _ _ _=>False):wpAny (model X.prog X.w) X.A (getAttr (.ref a) f b) (EP X pins σ Q) X.xe s:=by
  obtain ⟨mA,O,_,_,_,_⟩:=ins_get I.hok ea
  obtain ⟨od,J,_⟩:=O.look
  obtain ⟨rest,hrec⟩:=hp.rec_
  have I1:=I.tok (s.toks + 1)
  have hl:[Value.ref a].length=ps.length:=by
    obtain ⟨G,so,as,QD,ED,hh,w,z,_⟩:=h
    have:=F.len _ _ _ z
    rw [<- this,<- w.length];rfl
  have hc:(PySem.W.clsIn X.K C).isSome=true:=by
    obtain ⟨cd,hc,_⟩:=PySem.W.any_some c.hd
    rw [hc];rfl
  have e:=I1.env0
  refine PySem.W.get_bind I.kIn J (PySem.W.plainGet_of (c.get f)).1 (PySem.W.findObj_data hc hp.at_ hp.get hp.tak) (PySem.W.plainGet_of (c.get f)).2 (wpAny_call (PySem.W.prop_get (s:={ s with toks:=s.toks + 1 }) I.kIn hrec ?_))
  refine codeAny_mono (F.run X.A.in1 X.stack { s with toks:=s.toks + 1 } H ⟨[.ref a],[]⟩ [.ref a] [.ref a] Q (fun _ _ _=>False) hr.in1 hg e.in1 (by
    have:=hb { s with toks:=s.toks + 1 } [.ref a] I1.kIn (by simpa using hl)
    simpa using this) (.cons rfl .nil) h) fun r s' hq=>?_
  cases r with
  | error er=>
    obtain ⟨_,_,_,_,_,_,_,_,_,_,_,_,z⟩:=hq
    exact z.elim
  | ok fl=>
    cases fl with
    | ret u=>
      obtain ⟨v,H',I3,rv,q3⟩:=I1.after hq
      show wpAny _ _ (handedOut u) _ _ _
      rw [PySem.W.handedOut_of (handed_of rv)]
      exact wpAny_pure ⟨v,H',I3,rv,q3⟩
    | next=>exact False.elim hq
    | brk=>exact False.elim hq
    | cont=>exact False.elim hq
def dProp (C:Addr) (sp:SpD) (te:TD):TD:=fun sl Q E=>te sl (fun x s1=>match pubV x with
  | .d (.ins D fs)=>D=C/\sp [.d (.ins D fs)] (fun v=>Q v s1) fun _ _=>False
  | _=>False) E
theorem ag9 (he:DE X W e te) (c:Cls X.K C) (hp:PropOf X.K C f p g) (F:FnG X.prog X.w X.K X.mg X.base k g fd ps sp) (hr:Room (k + 1) X.A) (hg:X.A.guards=some []) (hb:Binds X.K fd ps [])
    (hab:attributeBase e f X.env (eval e X.env)=eval e X.env:=by rfl):DE X W (.Attribute e f pos) (dProp C sp te):=by
  refine ⟨fun pins s σ H R I ⟨G,so,sl,Q,E,rep,q,hq,hx⟩=>?_⟩
  refine attr_of hab (thn (he.run pins s σ H (fun v H1=>∃ G1 s1 fs,PostE X.K G so σ H sl v H1 G1 (.d (.ins C fs)) s1/\sp [.d (.ins C fs)] (fun v=>Q v s1) fun _ _=>False) I ⟨G,so,sl,_,E,rep,q,fun v H1 G1 dv s1 p1 z=>?_,hx⟩) fun u s1 ⟨x,H1,I1,rx,G1,sl1,fs,p1,z⟩=>?_)
  · obtain ⟨G2,p2⟩:=p1.pub
    split at z
    · rename_i D fs ed
      obtain ⟨rfl,z⟩:=z
      exact ⟨G2,s1,fs,by rw [<- ed];exact p2,z⟩
    · exact z.elim
  · obtain ⟨a,dx,vs,rfl,ea,_⟩:=VOk.inst p1.rep.h p1.val rfl
    obtain rfl:u=Value.ref a:=rx
    exact getprop I1 ea c hp F hr hg hb ⟨G1,so,_,_,_,p1.rep.h,.cons p1.val (fun _ e=>(nomatch e)) .nil,z,fun v H' G' dv pv y=>hq v H' G' dv sl1 (p1.toPost.thenE (pv.slots p1.rep)) y,fun _ _ _ _ _ _ _ y=>y⟩
end
def gAt (K:PySem.W.Frag) (C:Addr) (f:Str):Addr:=match PySem.W.recIn K (He.ma K C f) "property" with
  | some (.ref g::_)=>g
  | _=>(match PySem.W.recIn K (He.ma K C f) "staticmethod" with
    | some (.ref g::_)=>g
    | _=>0)
structure PSpec where
  cls:Str
  prop:Str
  df:He.DefD
  st:Bool:=false
structure SMet (K:PySem.W.Frag) (C:Addr) (m:Str) (p g:Addr):Prop where
  rd:PySem.W.readsIn K C (.type "type")=true
  ga:PySem.W.specialIn K (.ref C) "__getattribute__"=some (some (.builtin "type.__getattribute__"))
  at_:PySem.W.findCls K (.ref C) (.type "type") m=some (.get (.builtin "staticmethod.__get__") (.ref p) .none (.ref C))
  rc:∃ rest,PySem.W.recIn K p "staticmethod"=some (.ref g::rest)
def headS (K:PySem.W.Frag) (p g:Addr):Bool:=match PySem.W.recIn K p "staticmethod" with
  | some (.ref a::_)=>decide (a=g)
  | _=>false
def smB (K:PySem.W.Frag) (C p g:Addr) (m:Str):Bool:=PySem.W.readsIn K C (.type "type") && (decide (PySem.W.specialIn K (.ref C) "__getattribute__"=some (some (.builtin "type.__getattribute__"))) && ((match PySem.W.findCls K (.ref C) (.type "type") m with
  | some (.get (.builtin h) (.ref p') .none (.ref D))=>decide (h="staticmethod.__get__") && (decide (p'=p) && decide (D=C))
  | _=>false) && headS K p g))
theorem an5 {K:PySem.W.Frag} {C p g:Addr} {m:Str} (h:smB K C p g m=true):SMet K C m p g:=by
  unfold smB at h
  obtain ⟨h1,h⟩:=He.ba h
  obtain ⟨h2,h⟩:=He.ba h
  obtain ⟨h3,h4⟩:=He.ba h
  refine ⟨h1,of_decide_eq_true h2,?_,?_⟩
  · split at h3
    · rename_i q p' D e
      obtain ⟨k1,k⟩:=He.ba h3
      obtain ⟨k2,k3⟩:=He.ba k
      rw [e,of_decide_eq_true k1,of_decide_eq_true k2,of_decide_eq_true k3]
    · cases h3
  · unfold headS at h4
    split at h4
    · rename_i a rest hr
      exact ⟨rest,by rw [hr,of_decide_eq_true h4]⟩
    · cases h4
def fnWa (K:PySem.W.Frag) (a:Addr):He.FnW:=match K.lookup a with
  | some ⟨_,_,.func fd,_⟩=>some (fd.name,fd.qualname,fd.params,fd.body,fd.scope,fd.globals,fd.closure,fd.builtins)
  | _=>none
def headed (K:PySem.W.Frag) (p g:Addr):Bool:=match PySem.W.recIn K p "property" with
  | some (.ref a::_)=>decide (a=g)
  | _=>false
def pB (K:PySem.W.Frag) (q:PSpec):Bool:=
  let C:=He.ga K q.cls
  let p:=He.ma K C q.prop
  let g:=gAt K C q.prop
  (if q.st then smB K C p g q.prop else decide (PySem.W.findIn K (.ref C) q.prop=some (some (.ref p))) && (decide (PySem.W.specialIn K (.ref p) "__get__"=some (some (.builtin "property.__get__"))) && (decide (PySem.W.takesIn K (.ref p)=some true) && headed K p g))) &&
  (PySem.W.keepIn K (.ref g) && (match K.lookup g with
    | some ⟨_,_,.func fd,_⟩=>PySem.W.codeIn K fd.code q.df.qual && (He.dflB K fd.defaults (q.df.dvs K) && He.kwdB K fd.kwdefaults (q.df.kws K))
    | _=>false))
structure POk (K:PySem.W.Frag) (q:PSpec):Prop where
  p:q.st=false->PropOf K (He.ga K q.cls) q.prop (He.ma K (He.ga K q.cls) q.prop) (gAt K (He.ga K q.cls) q.prop)
  s:q.st=true->SMet K (He.ga K q.cls) q.prop (He.ma K (He.ga K q.cls) q.prop) (gAt K (He.ga K q.cls) q.prop)
  f:∃ fd,FunD K q.df.name q.df.qual q.df.params q.df.body q.df.scope (q.df.dvs K) (q.df.kws K) (gAt K (He.ga K q.cls) q.prop) fd
theorem pB_ok {K:PySem.W.Frag} {q:PSpec} (c:pB K q=true) (e:fnWa K (gAt K (He.ga K q.cls) q.prop)=q.df.val):POk K q:=by
  unfold pB at c
  dsimp only at c
  obtain ⟨c0,c⟩:=He.ba c
  obtain ⟨c5,c6⟩:=He.ba c
  refine ⟨fun hs=>?_,fun hs=>?_,?_⟩
  · rw [hs,if_neg (by decide)] at c0
    obtain ⟨c1,c⟩:=He.ba c0
    obtain ⟨c2,c⟩:=He.ba c
    obtain ⟨c3,c4⟩:=He.ba c
    refine ⟨of_decide_eq_true c1,of_decide_eq_true c2,of_decide_eq_true c3,?_⟩
    unfold headed at c4
    split at c4
    · rename_i a rest hr
      exact ⟨rest,by rw [hr,of_decide_eq_true c4]⟩
    · cases c4
  · rw [hs,if_pos rfl] at c0
    exact an5 c0
  · generalize gAt K (He.ga K q.cls) q.prop=g at *
    unfold fnWa at e
    split at c6
    · rename_i oc od fd osl lk
      rw [lk] at e
      obtain ⟨n1,n2,n3,n4,n5,n6,n7,n8,n9,n10,n11,n12,n13,n14,n15⟩:=fd
      have e2:(some (n1,n2,n3,n4,n5,n6,n7,n15):He.FnW)=some (q.df.name,q.df.qual,q.df.params,.stmts q.df.body,q.df.scope,mainGlobals,[],builtinsNs):=e
      simp only [Option.some.injEq,Prod.mk.injEq] at e2
      obtain ⟨h1,h2,h3,h4,h5,h6,h7,h8⟩:=e2
      subst h1 h2 h3 h4 h5 h6 h7 h8
      obtain ⟨k1,k2⟩:=He.ba c6
      obtain ⟨k3,k4⟩:=He.ba k2
      exact ⟨_,⟨oc,od,n8,n9,n10,n11,n12,n13,n14,osl,rfl,lk,k1,He.dflB_ok k3,He.kwdB_ok k4⟩,c5⟩
    · cases c6
structure LZ extends LY where
  ci:List Str
  pr:List PSpec
abbrev AlZ:Type:=Bool × AlY × List He.FnW
def LZ.ok (l:LZ) (K:PySem.W.Frag):Bool:=(l.ci.all fun C=>cB K (He.ga K C)) && l.pr.all (pB K)
def valZ (l:LZ) (fn:List He.DefD):AlZ:=(true,valY l.toLY fn,l.pr.map fun q=>q.df.val)
structure SaysZ (l:LZ) (fa:List He.Fa) (fn:List He.DefD) (h:Heap) (K:PySem.W.Frag):Prop extends SaysY l.toLY fa fn h K where
  ci:∀ C∈l.ci,CInst K (He.ga K C)
  pr:∀ q∈l.pr,POk K q
theorem ak1 (t:Addr) (items:Array Value) :
    Meets (Builtin.«enumerate.__new__» ⟨[.type "enumerate",.ref t],[]⟩) (fun _ R s=>s.heap.IsTuple t items/\
      R (.ok (.ret (.ref (s.heap.push { cls:=.type "tuple_iterator",data:=.fields #[.ref t,.int 0 0] }).objs.size))) { s with heap:=(s.heap.push { cls:=.type "tuple_iterator",data:=.fields #[.ref t,.int 0 0] }).push { cls:=.type "enumerate",data:=.fields #[.none,.bool false,.ref s.heap.objs.size,rawInt 0,.none,.none] } }):=
  .of_wp fun prog w A R s h=>by
    obtain ⟨hp,g,d,tk,os⟩:=s
    obtain ⟨h1,h⟩:=h
    have hsub:=sub_enumerate
    have q1:∀ {A':Around} {E:Value->Shared->Prop} {Q:Value->Shared->Prop},Q (.ref hp.objs.size) ⟨hp.push { cls:=.type "tuple_iterator",data:=.fields #[.ref t,.int 0 0] },g,d,tk,os⟩->wpAny (model prog w) A' (pyIter (.ref t)) Q E ⟨hp,g,d,tk,os⟩:=
      fun q=>(begins_tuple t items).iter prog w _ _ ⟨hp,g,d,tk,os⟩ _ h1 q
    wp_walk using q1
    refine wpAny_stack_any fun st=>wpAny_pure ?_
    split
    · rename_i c _ _ _ _ _
      cases (c == Value.type "enumerate")<;>(wp_walk using q1;exact ⟨_,rfl,h⟩)
    · wp_walk using q1;exact ⟨_,rfl,h⟩
section
variable {prog:Program} {w:World} {A:Around} {E:Value->Shared->Prop} {s:Shared}
theorem ajM {t:Addr} {items:Array Value} {Q:Value->Shared->Prop} (hT:s.heap.IsTuple t items)
    (h:∀ h',IsEnum h' (s.heap.objs.size + 1) s.heap.objs.size 0 .none->h'.IsTupleIter s.heap.objs.size t 0->h'.objs.size=s.heap.objs.size + 2->(∀ b o,s.heap.get? b=some o->h'.get? b=some o)->Q (.ref (s.heap.objs.size + 1)) { s with heap:=h' }) :
    wpAny (model prog w) A (call (.type "enumerate") [.ref t]) Q E s:=by
  refine callType_new F.called_enumerate (by decide) (F.typeCall_enumerate_1 _) (F.newCall_enumerate_1 _) (fun obj=>F.args_object_init_2 obj _) F.entry_enumerate_new (ak1 t items) ⟨hT,?_⟩
  have hz:(s.heap.push { cls:=.type "tuple_iterator",data:=.fields #[.ref t,.int 0 0] }).objs.size=s.heap.objs.size + 1:=Heap.size_push ..
  show _/\_
  rw [hz]
  have he:IsEnum ((s.heap.push { cls:=.type "tuple_iterator",data:=.fields #[.ref t,.int 0 0] }).push { cls:=.type "enumerate",data:=.fields #[.none,.bool false,.ref s.heap.objs.size,rawInt 0,.none,.none] }) (s.heap.objs.size + 1) s.heap.objs.size 0 .none:=by
    have z:=Heap.get?_push_size (s.heap.push { cls:=.type "tuple_iterator",data:=.fields #[.ref t,.int 0 0] }) (o:={ cls:=.type "enumerate",data:=.fields #[.none,.bool false,.ref s.heap.objs.size,rawInt 0,.none,.none] }) rfl
    rw [hz] at z;exact z
  exact ⟨⟨_,he,rfl⟩,h _ he ⟨_,Heap.get?_push_of_some _ (Heap.get?_push_size _ rfl),rfl,rfl⟩ (by rw [Heap.size_push,hz]) fun b o x=>Heap.get?_push_of_some _ (Heap.get?_push_of_some _ x)⟩
end
theorem ak2 {prog:Program} {w:World} {A:Around} {E:Value->Shared->Prop} {s:Shared} {e it t:Addr} {i:Nat} {items:Array Value} {old:Value} {Q:Option Value->Shared->Prop} (hh:A.handled=none) (he:IsEnum s.heap e it i old) (hit:s.heap.IsTupleIter it t i) (ht:s.heap.IsTuple t items) (hx:items[i]?=none)
    (hQ:∀ h',Heap.ExtBut it s.heap h'->Q none { s with heap:=h' }):wpAny (model prog w) A (pyNext (.ref e)) Q E s:=by
  have ty:s.TypeIs (.ref e) "enumerate":=⟨_,he,rfl⟩
  unfold pyNext
  refine wpAny_bind (wpAny_attempt (wpAny_callSpecial?_slot (name:=Str.ofString "__next__") ty F.slot_enumerate_next (wpAny_call_entry F.slot_enumerate_next ty F.entry_enumerate_next ?_ (F.args_enumerate_next_1 _))))
  show wpAny _ _ (field (.ref e) 2 >>= _) _ _ _
  refine wpAny_bind (wpAny_field he rfl (x:=.ref it) rfl (wpAny_bind (wpAny_nextOf_tuple_end hh hit ht hx fun h' x he' ⟨o,ho,hc⟩=>?_)))
  exact wpAny_bind (wpAny_isInstance (T:="StopIteration") (b:=true) ⟨o,ho,hc⟩ isSubtype_stop (wpAny_pure (hQ _ he')))
def IteT (K:PySem.W.Frag) (a:Addr):It:=
  ⟨fun i H=>∃ (xs:List V) (x:V),SqT K H a xs/\xs[i]?=some x,fun i H v H'=>∃ T x,v=.ref T/\H T=none/\H'=upd H T (.tup [.int (i:Nat),x])/\∀ xs,SqT K H a xs->xs[i]?=some x,fun i H=>∃ xs:List V,SqT K H a xs/\xs.length<=i⟩
theorem ajr {P:Program} {w:World} {K:PySem.W.Frag} {elts:List Expr} {kk:Nat} {tpos:Pos} (a e it:Addr) :
    Turn P w K (.Tuple elts kk tpos) (IteT K a) [e,it] e (fun i h=>(∃ old,IsEnum h e it ((i:Nat):Int) old)/\h.IsTupleIter it a i/\e≠it/\e≠a/\a≠it) where
  mem:=by simp
  obj:=fun i h ⟨⟨old,he⟩,⟨o,ho,hc,hd⟩,_⟩ b hb=>by
    rcases (show b=e\/b=it by simpa using hb) with z | z
    · rw [z];exact ⟨_,he,fun v q=>nomatch q⟩
    · rw [z];exact ⟨o,ho,fun v q=>by rw [hd] at q;cases q⟩
  keep:=fun i h h' ⟨⟨old,he⟩,hi,hne⟩ k=>⟨⟨old,k e (by simp) _ he⟩,hi.at fun o q=>k it (by simp) o q,hne⟩
  item:=by
    intro X hP hw hK hc i pins s σ H E I hf st hg
    subst hP hw hK
    obtain ⟨⟨old,he⟩,hit,hne,hea,hai⟩:=st
    obtain ⟨xs,x,hq,hx⟩:=hg
    obtain ⟨its,rv,p,hz⟩:=I.tuple hq
    obtain ⟨u,hu,ru⟩:=rv.get hx
    have hel:e < s.heap.objs.size:=Heap.lt_size he
    have hil:it < s.heap.objs.size:=by obtain ⟨_,q,_⟩:=hit;exact Heap.lt_size q
    have hlt:i < its.toArray.size:=by
      rw [List.size_toArray]
      exact (List.getElem?_eq_some_iff.mp hu).1
    refine wpAny_pyNext_enum_itemD (Draws.tuple (A:=X.A.in1) (I.ok.hd hc) it a hai its.toArray) he ⟨hit,p⟩ hlt hne (by simp [hne,hea]) fun y h' tk hy ho hst' hT hsz hk=>?_
    have ey:y=u:=by
      have z:its.toArray[i]?=some y:=hy
      simp at z
      rw [hu] at z
      exact (Option.some.inj z).symm
    subst ey
    refine ⟨_,rfl,wpAny_letOwnedTupleGo_enum (s:={ s with heap:=h',toks:=tk + 1 }) ho fun h'' he' sb=>?_⟩
    have hT2:h''.get? s.heap.objs.size=some { cls:=.type "tuple",data:=.seq #[.int i tk,y] }:=(sb.2 _ (Nat.ne_of_gt hel)).trans hT
    have new:ObjOk X.prog X.w (upd H s.heap.objs.size (.tup [.int (i:Nat),x])) h'' s.heap.objs.size (.tup [.int (i:Nat),x]):=
      ⟨by show 2<=sizeLine;decide,[.int i tk,y],.cons ⟨_,rfl⟩ (.cons ru .nil),⟨_,hT2,rfl,_,rfl⟩⟩
    have I1:Inv X pins σ (upd H s.heap.objs.size (.tup [.int (i:Nat),x])) { s with heap:=h'',toks:=tk + 1 }:=
      I.turnedNew (ch:=[e,it]) (fun b ob hb q=>(sb.2 b (fun z=>hb (by simp [z]))).trans (hk b ob (fun z=>hb (by simp [z])) (fun z=>hb (by simp [z])) q)) hf (Nat.le_refl _) new
    refine ⟨.ref s.heap.objs.size,_,I1,rfl,⟨_,x,rfl,I.hok.fresh (Nat.le_refl _),rfl,fun ys hy=>?_⟩,⟨⟨y,?_⟩,hst'.1.at fun o q=>(sb.2 it (Ne.symm hne)).trans q,hne,hea,hai⟩,fun b hb=>?_⟩
    · rw [I.tuple_inj hy hq];exact hx
    · have e1:((i + 1:Nat):Int)=(i:Int) + 1:=by omega
      rw [e1];exact he'
    · have hb':b < s.heap.objs.size:=by
        rcases (show b=e\/b=it by simpa using hb) with z | z
        · rw [z];exact hel
        · rw [z];exact hil
      rw [upd_ne (Nat.ne_of_lt hb')]
      exact (hf b hb).1
  done:=by
    intro X hP hw hK hc i pins s σ H E I hf st hg
    subst hP hw hK
    obtain ⟨⟨old,he⟩,hit,hne,hea,hai⟩:=st
    obtain ⟨xs,hq,hx⟩:=hg
    obtain ⟨its,rv,p,hz⟩:=I.tuple hq
    obtain ⟨f0,f1,f2,f3,f4,f5⟩:=hf it (by simp)
    have hl:=rv.length
    exact ak2 (I.ok.hd hc) he hit p (by simp;omega) fun h' eb=>⟨rfl,I.turned (t':=s.toks) (fun b o hb q=>eb b o hb q) f0 f1 f3 f4 f5⟩
  self:=fun A i s Q E ⟨⟨_,he⟩,_⟩ h=>wpAny_pyIter_enum he h
def iEnumU (K:PySem.W.Frag) (ta:TA):TI:=fun σ H R=>ta σ H fun vs H1=>∃ a xs,vs=[.ref a]/\((SqL K H1 a xs/\R (Ite K a) H1)\/(SqT K H1 a xs/\R (IteT K a) H1))
theorem alE {X:Cx} {e:Expr} {ta:TA} {p pos tpos:Pos} {elts:List Expr} {kk:Nat} (hg:Gl X "enumerate") (hm:X.mg "enumerate"=none) (ha:PA X [e] ta) (hs:starEach [e] X.env=[(false,eval e X.env)]:=by rfl) :
    PI X (.Tuple elts kk tpos) (.Call (.Name "enumerate" p) [e] [] pos) (iEnumU X.K ta):=by
  refine ⟨fun pins s σ H R I h=>Call_ (ld_blt I hg hm boot_enumerate (PyProof.Rows.callWith_type1 (thn (ha.run pos pins s σ H _ I h) fun us s1 ⟨vs,H1,I1,r1,q1⟩=>?_) hs rfl))⟩
  obtain ⟨a,xs,ex,q⟩:=q1
  subst ex
  obtain ⟨u,rfl,ru⟩:=vals1 r1
  cases ru
  have fp:∀ b∈[s1.heap.objs.size + 1,s1.heap.objs.size],FpOk X pins H1 b:=fun b hb=>by
    have hle:s1.heap.objs.size<=b:=by
      rcases (show b=s1.heap.objs.size + 1\/b=s1.heap.objs.size by simpa using hb) with z | z
      · rw [z];exact Nat.le_add_right _ _
      · rw [z];exact Nat.le_refl _
    exact I1.fpOk hle (I1.hok.fresh hle)
  rcases q with ⟨hq,q⟩ | ⟨hq,q⟩
  · obtain ⟨its,rv,p',hz⟩:=I1.list hq
    refine call_enumerate_list p'.isList fun h' he hit hsz hk=>wpAny_pyIter_enum he ?_
    exact ⟨s1.heap.objs.size + 1,[s1.heap.objs.size + 1,s1.heap.objs.size],_,_,H1,rfl,I1.kept (t':=s1.toks) hk,turn_enum a (s1.heap.objs.size + 1) s1.heap.objs.size,⟨⟨.none,he⟩,hit,Nat.succ_ne_self _⟩,fp,q⟩
  · obtain ⟨its,rv,p',hz⟩:=I1.tuple hq
    have hal:a < s1.heap.objs.size:=by
      obtain ⟨o,ho,_⟩:=p'
      exact Heap.lt_size ho
    refine ajM p' fun h' he hit hsz hk=>wpAny_pyIter_enum he ?_
    exact ⟨s1.heap.objs.size + 1,[s1.heap.objs.size + 1,s1.heap.objs.size],_,_,H1,rfl,I1.kept (t':=s1.toks) hk,ajr a (s1.heap.objs.size + 1) s1.heap.objs.size,⟨⟨.none,he⟩,hit,Nat.succ_ne_self _,Nat.ne_of_gt (Nat.lt_succ_of_lt hal),Nat.ne_of_lt hal⟩,fp,q⟩
theorem alT {K:PySem.W.Frag} {G H:Hp} {so:So} {σ:L2.St} {sl:DSt} {c:Addr} {vs:List V} {ds:List D} (rep:Rep K G so σ H sl) (e:SqT K G c vs) (al:DAll K G vs ds):ItD K G so σ H sl (IteT K c) (enumFrom 0 ds):=by
  have hl:=aja 0 ds
  have kp:∀ (H1:Hp),(∀ a∈(if G c=none then [] else [c]),H1 a=H a)->SqT K H1 c vs:=fun H1 k=>by
    rcases e with (e | ⟨o,e⟩) | e
    · refine .inl (.inl ?_)
      rw [k c (by rw [if_neg (by rw [e];simp)];simp)];exact rep.h.ex _ _ e
    · refine .inl (.inr ⟨o,?_⟩)
      rw [k c (by rw [if_neg (by rw [e];simp)];simp)];exact rep.h.ex _ _ e
    · exact .inr e
  refine ⟨if G c=none then [] else [c],fun a ha=>?_,fun i H1 hi k=>?_,fun H1 k=>?_,fun i H1 x H2 G1 k g h1 y hi=>?_⟩
  · split at ha
    · simp at ha
    · rename_i z
      obtain rfl:a=c:=by simpa using ha
      obtain ⟨o,eo⟩:=Option.ne_none_iff_exists'.mp z
      exact ⟨by rw [rep.h.ex _ _ eo];simp,rep.h.nsrc eo,fun q=>z (rep.nown q).2.1⟩
  · have h2:i < vs.length:=by rw [al.length,<- hl];exact hi
    exact ⟨vs,vs[i],kp H1 k,by simp [h2]⟩
  · exact ⟨vs,kp H1 k,by rw [al.length,<- hl];exact Nat.le_refl _⟩
  · obtain ⟨T,x1,rfl,nT,rfl,f2⟩:=y
    obtain ⟨d,e1,e2⟩:=al.getV (f2 vs (kp _ k))
    refine ⟨_,_,ajb 0 ds i d e1,.tuple h1 nT (.cons ?_ (.cons (e2.mono g) .nil))⟩
    rw [show (0:Int) + (i:Nat)=(i:Nat) by omega];exact .int _
theorem agp {K:PySem.W.Frag} {f:Str} {C:Addr} {fs:List (Str × D)} {d:D} {Q:DV->Prop} (h1:Cls K C) (h2:NoAttr K C f) (h3:fs.lookup f=some d) (q:Q (.d d)):fldR K f (.d (.ins C fs)) Q:=by
  unfold fldR
  show Cls K C/\NoAttr K C f/\(match fs.lookup f with | some d=>Q (.d d) | none=>False)
  rw [h3]
  exact ⟨h1,h2,q⟩
mutual
def Pl:D->Prop
  | .lst ds=>Pls ds
  | .tup ds=>Pls ds
  | .ins _ _=>False
  | .dk _=>False
  | .dt _=>False
  | .any=>False
  | .raw _=>False
  | .kt _=>False
  | .non=>True
  | .bl _=>True
  | .int _=>True
  | .str _=>True
def Pls:List D->Prop
  | []=>True
  | d::r=>Pl d/\Pls r
end
theorem Pl.kind {d:D} (h:Pl d):kindD d=true:=by
  cases d<;>first | rfl | (unfold Pl at h;exact h.elim)
theorem Pl.tup {ds:List D} (h:Pl (.tup ds)):Pls ds:=by rw [Pl] at h;exact h
theorem Pls.hd {d:D} {r:List D} (h:Pls (d::r)):Pl d:=by rw [Pls] at h;exact h.1
theorem Pls.tl {d:D} {r:List D} (h:Pls (d::r)):Pls r:=by rw [Pls] at h;exact h.2
theorem aod {ds:List D} (h:Pls ds):Pl (.tup ds):=by rw [Pl];exact h
theorem akg {i:Int}:Pl (.int i):=by simp [Pl]
theorem am2:Pls []:=by simp [Pls]
theorem aiU {d:D} {r:List D} (h:Pl d) (t:Pls r):Pls (d::r):=by rw [Pls];exact ⟨h,t⟩
theorem aoe (q:Rat):Pl (rD q):=aod (aiU akg (aiU akg am2))
theorem Pl.pair {d:D} (h:Pl d):pairK d:=by
  cases d with
  | tup ds=>
    match ds,h with
    | [],_=>exact True.intro
    | [_],_=>exact True.intro
    | [a,b],h=>exact ⟨h.tup.hd.kind,h.tup.tl.hd.kind⟩
    | _::_::_::_,_=>exact True.intro
  | kt _=>rw [Pl] at h;exact h.elim
  | _=>exact True.intro
def itemsD:D->Option (List D)
  | .lst ds=>some ds
  | .tup ds=>some ds
  | _=>none
theorem ag4 {n d:Int} (h:0 < d) (hb:d.natAbs < 2 ^ 8000):CDivW n (gcI n d):=by
  have g:=akX (n:=n) h
  refine ⟨g,?_⟩
  have l:gcI n d<=d:=Int.le_of_dvd h (Int.gcd_dvd_right n d)
  have:(gcI n d).natAbs < 2 ^ 8000:=Nat.lt_of_le_of_lt (by omega) hb
  exact Nat.lt_of_lt_of_le (PySem.Flt.log2_lt_of (by decide) this) (by decide)
theorem ajt {x:D} (k2:pairK x) (h:ratOf x=none):wholeD x=false/\ratioD x=false:=by
  unfold ratOf at h
  split at h
  · cases h
  · rename_i a b
    split at h
    · cases h
    · rename_i z
      refine ⟨rfl,?_⟩
      show (decide (1<=b) && decide (gcI a b=1))=false
      rw [Bool.and_eq_false_iff]
      by_cases q:1<=b
      · exact .inr (decide_eq_false fun y=>z ⟨q,y⟩)
      · exact .inl (decide_eq_false q)
  · rename_i z1 z2
    refine ⟨?_,?_⟩
    · cases x<;>first | rfl | exact absurd rfl (z1 _)
    · cases x with
      | tup ds=>
        match ds with
        | []=>rfl
        | [_]=>exact aew (by simp)
        | _::_::_::_=>exact aew (by simp)
        | [a,b]=>cases a<;>cases b<;>first | rfl | exact absurd rfl (z2 _ _)
      | _=>rfl
theorem ratOf_some {x:D} {q:Rat} (h:ratOf x=some q):(∃ i:Int,x=.int i/\rD q=rt i 1)\/(wholeD x=false/\ratioD x=true/\x=rD q):=by
  unfold ratOf at h
  split at h
  · rename_i i
    cases h
    exact .inl ⟨i,rfl,rfl⟩
  · rename_i a b
    split at h
    · rename_i z
      cases h
      refine .inr ⟨rfl,?_,(aoa z.1 z.2).symm⟩
      show (decide (1<=b) && decide (gcI a b=1))=true
      rw [decide_eq_true z.1,decide_eq_true z.2];rfl
    · cases h
  · cases h
end DL
namespace DL
section
variable {te:TD} {t u:TDS} {E:EndsD} {sl s':DSt} {i:Nat}
theorem aiN (R:List D->Prop) (h:∀ Q:DV->DSt->Prop,(∀ ds,R ds->Q (.own (.lst ds)) s')->te sl Q E.xc) (q:∀ ds,R ds->u E (s'.set i (some (.own (.lst ds))))):dSeq (dSet te i) u E sl:=h _ q
end
theorem al7 {α:Type} {xs:List α} {k:Nat} (h:k<=xs.length):cut xs none (some (k:Int))=xs.take k:=by
  unfold cut
  have e1:HT.sIx xs.length 0 none=0:=rfl
  have e2:HT.sIx xs.length xs.length (some (k:Int))=k:=by
    rw [HT.sIx_nat];omega
  rw [e1,e2];simp
end DL
namespace DL
open PySem PySem.Spec PyProof.Rows L2
section
variable {X:Cx} {W:WX} {e:Expr} {es:List Expr} {ta te:TD} {tr tk:TDA} {p pos kpos:Pos} {kws:List Keyword} {nm:Option Str}
end
section
variable {X:Cx} {W:WX} {e:Expr} {te:TD} {tk:TDA} {kpos:Pos} {kws:List Keyword} {nm:Str}
end
def Lent (x:DV):Prop:=(∃ d,x=.d d)\/∃ ds,x=.bor (.lst ds)
def itemsV:DV->Option (List D)
  | .d d=>itemsD d
  | .bor (.lst ds)=>some ds
  | _=>none
theorem anE {P:Program} {w:World} {K:PySem.W.Frag} {mg:Str->Option Value} {base:Heap} {n qual:Str} {params:Arguments} {body:List Stmt} {scope:Scope} {dvs:List V} {kws:List (Str × V)} {f C:Addr} {fd:FuncData} {N ps:List Str} {k:Nat} {sp:SpI} {t:TDS}
    (F:FunD K n qual params body scope dvs kws f fd) (S:FnScope N ps scope) (len:∀ args Q E,sp args Q E->args.length + 1=ps.length) (nsee:∀ args Q E,sp args Q E->∀ x∈args,Lent x)
    (hd:∀ (cdv:Value) (A:Around) (outer:List Env) (s:Shared) (H:Hp) (E:XK),Room k (A.deeper (envOfC qual scope s.heap.objs.size f cdv))->(cxOf (L2N.CX P w) P w K mg base N qual scope f cdv A outer s H E).A.guards=some []->
      DSs (cxOf (L2N.CX P w) P w K mg base N qual scope f cdv A outer s H E) (fun cls d _ H'=>E cls d H') body t)
    (hr:∀ args Q E x,sp args Q E->t { nx:=endI x C Q,rt:=fun _ _=>False,bk:=fun _=>False,ct:=fun _=>False,xc:=fun cls fs _=>E cls fs } (startD N (.own (.ins x C [])::args))):FnR P w K mg base (k + 1) f fd ps (upIn K C sp):=by
  refine akY F S (fun vs H Q E h=>?_) (fun cdv A outer s H vs Q E hroom hg h=>?_)
  · obtain ⟨x,vs',G,so,args,QD,ED,rfl,_,_,_,_,w1,q,_⟩:=h
    rw [List.length_cons,w1.length];exact len _ _ _ q
  · obtain ⟨x,vs',G,so,args,QD,ED,rfl,hrep,ow,gx,sx,w1,q,hq,hx⟩:=h
    have only:∀ a,Own (startD N (.own (.ins x C [])::args)) (L2.start N (.ref x::vs')) a->a=x:=fun a ⟨i,o,e1,e2⟩=>by
      rcases start_get0 e1 with ⟨rfl,_⟩ | ⟨j,rfl,z⟩
      · have:(L2.start N (.ref x::vs'))[0]?=some (some (.ref x)):=aeq rfl
        rw [this] at e2;cases e2;rfl
      · obtain ⟨_,_,_,n⟩:=w1.get z
        exact absurd rfl (n o)
    have rep:Rep K G so (L2.start N (.ref x::vs')) H (startD N (.own (.ins x C [])::args)):=by
      refine ⟨hrep,by unfold startD L2.start;simp [w1.length],fun i d e=>?_,fun i j o o' a e1 e2 _ _=>?_,fun i o a e1 e2=>?_,fun i o e1=>?_⟩
      · rcases start_get0 e with ⟨rfl,rfl⟩ | ⟨j,rfl,z⟩
        · exact ⟨.ref x,aeq rfl,x,rfl,gx,sx,ow⟩
        · obtain ⟨v,e1,e2,_⟩:=w1.get z
          exact ⟨v,aeq (by simpa using e1),VOk.slot e2⟩
      · rcases start_get0 e1 with ⟨rfl,_⟩ | ⟨j',rfl,z⟩
        · rcases start_get0 e2 with ⟨rfl,_⟩ | ⟨j',rfl,z⟩
          · rfl
          · obtain ⟨_,_,_,n⟩:=w1.get z
            exact absurd rfl (n o')
        · obtain ⟨_,_,_,n⟩:=w1.get z
          exact absurd rfl (n o)
      · rcases start_get0 e1 with ⟨_,z⟩ | ⟨j',rfl,z⟩
        · cases z
        · intro oo
          have ax:=only a oo
          subst ax
          rcases nsee _ _ _ q _ (List.mem_of_getElem? z) with ⟨d,y⟩ | ⟨ds,y⟩
          · cases y
          · cases y
            obtain ⟨v,g1,g2,_⟩:=w1.get z
            obtain ⟨b,rfl,_,vs1,g3,_⟩:=g2
            have:(L2.start N (.ref a::vs'))[j' + 1]?=some (some (.ref b)):=aeq (by simpa using g1)
            rw [this] at e2
            cases e2
            obtain ⟨_,dx,vs2,g4,_⟩:=ow
            rw [g3] at g4;cases g4
      · rcases start_get0 e1 with ⟨_,z⟩ | ⟨j',rfl,z⟩
        · cases z
        · rcases nsee _ _ _ q _ (List.mem_of_getElem? z) with ⟨d,y⟩ | ⟨ds,y⟩<;>cases y
    refine ⟨_,hd cdv A outer s H E hroom hg,G,so,_,_,rep,hr args QD ED x q,⟨fun σ' H' G' sl' p z=>?_,fun _ _ _ _ _ z=>z.elim,fun _ _ _ _ _ z=>z.elim,fun _ _ _ _ _ _ z=>z.elim,fun cls d σ' H' G' fs sl' p z1 z2=>?_⟩⟩
    · obtain ⟨fs,e,z⟩:=z
      obtain ⟨v,_,a,rfl,ga,_,ok⟩:=p.rep.slots 0 _ e
      have ax:a=x:=ok.1
      subst ax
      exact hq H' G' fs ⟨⟨p.ex,p.rep.h,fun b o e s n=>p.keep b o e s fun z=>n (only b z),fun b n1 g s n=>p.frm b n1 g s fun z=>n (only b z)⟩,ok,ga⟩ z
    · exact hx cls d H' G' fs ⟨p.ex,p.rep.h,fun b o e s n=>p.keep b o e s fun z=>n (only b z),fun b n1 g s n=>p.frm b n1 g s fun z=>n (only b z)⟩ z1 z2
@[irreducible] def enumVR (x:DV) (P:List D->Prop):Prop:=match itemsV x with
  | some ds=>P (enumFrom 0 ds)
  | none=>False
def dEnumV (te:TD):TDI:=fun sl Q E=>te sl (fun x s1=>enumVR (pubV x) fun ds=>Q ds s1) E
theorem al1 {X:Cx} {W:WX} {e:Expr} {te:TD} {pos p:Pos} {elts:List Expr} {kk:Nat} {tpos:Pos} (hg:Gl X "enumerate") (hm:X.mg "enumerate"=none) (h:DE X W e te) (hs:starEach [e] X.env=[(false,eval e X.env)]:=by rfl):DI X W (.Tuple elts kk tpos) (.Call (.Name "enumerate" p) [e] [] pos) (dEnumV te):=by
  refine ahE (alE hg hm (pa_cons h pa_nil hs) hs) fun σ H R ⟨G,so,sl,Q,E,rep,q,hq,hx⟩=>?_
  refine ⟨G,so,sl,_,E,rep,q,fun x H1 G1 dx s1 p1 h1=>?_,hx⟩
  obtain ⟨G1',p2⟩:=p1.pub
  unfold enumVR at h1
  have w:=p2.val
  generalize pubV dx=z at h1 w p2
  split at h1
  · rename_i ds ed
    unfold itemsV at ed
    split at ed
    · rename_i d
      cases d with
      | tup es=>
        cases ed
        have w1:DOk X.K G1' x (.tup ds):=w
        cases w1 with
        | tup g al=>exact ⟨_,_,rfl,.inr ⟨ex_t p2.rep.h.ex g,hq _ H1 G1' _ s1 p2.toPost (alT p2.rep g al) h1⟩⟩
      | lst es=>
        cases ed
        have w1:DOk X.K G1' x (.lst ds):=w
        cases w1 with
        | lst g al=>exact ⟨_,_,rfl,.inl ⟨SqL.of (p2.rep.h.ex _ _ g),hq _ H1 G1' _ s1 p2.toPost (akR (p2.rep.h.ex _ _ g) al (p2.rep.h.nsrc g) (akb p2.rep g)) h1⟩⟩
      | _=>cases ed
    · cases ed
      obtain ⟨a,rfl,sa,vs,g,al⟩:=w
      exact ⟨_,_,rfl,.inl ⟨SqL.of g,hq _ H1 G1' _ s1 p2.toPost (akR g al sa (p2.sepv a _ (.inr rfl) rfl)) h1⟩⟩
    · cases ed
  · exact h1.elim
theorem anp {x:DV} {ds:List D} {P:List D->Prop} (h:itemsV x=some ds) (q:P (enumFrom 0 ds)):enumVR (pubV x) P:=by
  unfold enumVR
  have:pubV x=x:=by
    cases x with
    | own o=>cases h
    | _=>rfl
  rw [this,h];exact q
section
variable {K:PySem.W.Frag} {G G2:Hp} {so:So} {σ:L2.St} {H H2:Hp} {sl s2:DSt} {a:Addr} {u:HO}
end
section
variable {X:Cx} {W:WX} {o value:Expr} {to te:TD} {pos pos':Pos}
end
def keepR:DV->Prop
  | .see _=>False
  | .bor _=>False
  | _=>True
section
variable {X:Cx} {W:WX} {a b:Expr} {ta tb:TD} {i j:Nat} {x y:Str} {pos:Pos}
end
section
variable {X:Cx} {k:Nat} {f C:Addr} {fd:FuncData} {ps:List Str} {sp:SpD}
end
inductive Fa2 {α β:Type} (R:α->β->Prop):List α->List β->Prop
  | nil:Fa2 R [] []
  | cons {x:α} {y:β} {xs:List α} {ys:List β} (h:R x y) (t:Fa2 R xs ys):Fa2 R (x::xs) (y::ys)
section
variable {α β γ:Type} {R:α->β->Prop} {xs:List α} {ys:List β}
theorem Fa2.mono {S:α->β->Prop} (h:Fa2 R xs ys) (k:∀ x y,R x y->S x y):Fa2 S xs ys:=by
  induction h with
  | nil=>exact .nil
  | cons h _ ih=>exact .cons (k _ _ h) ih
end
section
variable {g:TDG} {tt:TDT} {te:TD} {vs:List Nat} {Q:DV->DSt->Prop}
end
def eqKs:List Key->List D->Bool
  | [],[]=>true
  | k::ks,d::ds=>eqF (keyD k) d && eqKs ks ds
  | _,_=>false
def eqKs':List D->List Key->Bool
  | [],[]=>true
  | d::ds,k::ks=>eqF d (keyD k) && eqKs' ds ks
  | _,_=>false
mutual
def eqD:D->D->Bool
  | .lst a,.lst b=>eqDs a b
  | .tup a,.tup b=>eqDs a b
  | .kt a,.kt b=>decide (a=b)
  | .kt a,.tup b=>eqKs a b
  | .tup a,.kt b=>eqKs' a b
  | x,y=>eqF x y
def eqDs:List D->List D->Bool
  | [],[]=>true
  | a::r,b::s=>eqD a b && eqDs r s
  | _,_=>false
end
theorem ant (k:Key):∀ (d:D) (q:PyData),d.py=some q->PyData.eqv (keyPy k) q=eqF (keyD k) d/\PyData.eqv q (keyPy k)=eqF d (keyD k):=by
  intro d q h
  cases k<;>cases d<;>rw [D.py] at h<;>first | (cases h;done) | (cases h;exact ⟨by rw [keyPy,PyData.eqv];rfl,by rw [keyPy,PyData.eqv];rfl⟩) | (obtain ⟨qs,hq,rfl⟩:=Option.map_eq_some_iff.mp h;exact ⟨by rw [keyPy,PyData.eqv];rfl,by rw [keyPy,PyData.eqv];rfl⟩)
theorem aix:∀ (ks:List Key) (b:List D) (qs:List PyData),D.pyAll b=some qs->PyData.eqvAll (ks.map keyPy) qs=eqKs ks b/\PyData.eqvAll qs (ks.map keyPy)=eqKs' b ks
  | [],[],qs,h=>by rw [D.pyAll] at h;cases h;exact ⟨rfl,rfl⟩
  | [],d::b,qs,h=>by
    rw [D.pyAll] at h
    split at h<;>cases h
    exact ⟨rfl,rfl⟩
  | k::ks,[],qs,h=>by rw [D.pyAll] at h;cases h;exact ⟨rfl,rfl⟩
  | k::ks,d::b,qs,h=>by
    rw [D.pyAll] at h
    split at h
    · rename_i p ps e1 e2
      cases h
      obtain ⟨h1,h2⟩:=ant k d p e1
      obtain ⟨i1,i2⟩:=aix ks b ps e2
      rw [List.map_cons,PyData.eqvAll,PyData.eqvAll,h1,h2,i1,i2,eqKs,eqKs']
      exact ⟨rfl,rfl⟩
    · cases h
theorem ak0:∀ (a b:List Key),PyData.eqvAll (a.map keyPy) (b.map keyPy)=decide (a=b)
  | [],[]=>rfl
  | [],_::_=>rfl
  | _::_,[]=>rfl
  | j::a,k::b=>by
    rw [List.map_cons,List.map_cons,PyData.eqvAll,ak0 a b]
    have e:PyData.eqv (keyPy j) (keyPy k)=decide (j=k):=by
      cases j with
      | inl i=>cases k with
        | inl m=>rw [keyPy,keyPy,PyData.eqv,key_ll]
        | inr z=>rw [keyPy,keyPy,PyData.eqv,key_lr]
      | inr y=>cases k with
        | inl m=>rw [keyPy,keyPy,PyData.eqv,key_rl]
        | inr z=>
          rw [keyPy,keyPy,PyData.eqv,key_rr]
          by_cases e:y=z
          · subst e;simp
          · rw [decide_eq_false e];exact beq_eq_false_iff_ne.mpr e
    rw [e]
    by_cases h1:j=k
    · subst h1;simp
    · simp [h1]
mutual
theorem amr:∀ (d e:D) (p q:PyData),d.py=some p->e.py=some q->PyData.eqv p q=eqD d e
  | .lst a,e,p,q,h1,h2=>by
    rw [D.py] at h1
    obtain ⟨ps,hp,rfl⟩:=Option.map_eq_some_iff.mp h1
    cases e with
    | lst b=>
      rw [D.py] at h2
      obtain ⟨qs,hq,rfl⟩:=Option.map_eq_some_iff.mp h2
      rw [PyData.eqv,eqD];exact aiy a b ps qs hp hq
    | tup b=>
      rw [D.py] at h2
      obtain ⟨qs,hq,rfl⟩:=Option.map_eq_some_iff.mp h2
      rw [PyData.eqv];rfl
    | ins _ _=>rw [D.py] at h2;cases h2
    | dk _=>rw [D.py] at h2;cases h2
    | dt _=>rw [D.py] at h2;cases h2
    | any=>rw [D.py] at h2;cases h2
    | raw _=>rw [D.py] at h2;cases h2
    | _=>rw [D.py] at h2;cases h2;rw [PyData.eqv];rfl
  | .tup a,e,p,q,h1,h2=>by
    rw [D.py] at h1
    obtain ⟨ps,hp,rfl⟩:=Option.map_eq_some_iff.mp h1
    cases e with
    | tup b=>
      rw [D.py] at h2
      obtain ⟨qs,hq,rfl⟩:=Option.map_eq_some_iff.mp h2
      rw [PyData.eqv,eqD];exact aiy a b ps qs hp hq
    | lst b=>
      rw [D.py] at h2
      obtain ⟨qs,hq,rfl⟩:=Option.map_eq_some_iff.mp h2
      rw [PyData.eqv];rfl
    | kt b=>
      rw [D.py] at h2
      cases h2
      rw [PyData.eqv,eqD];exact (aix b a ps hp).2
    | ins _ _=>rw [D.py] at h2;cases h2
    | dk _=>rw [D.py] at h2;cases h2
    | dt _=>rw [D.py] at h2;cases h2
    | any=>rw [D.py] at h2;cases h2
    | raw _=>rw [D.py] at h2;cases h2
    | _=>rw [D.py] at h2;cases h2;rw [PyData.eqv];rfl
  | .non,e,p,q,h1,h2=>by
    rw [D.py] at h1;cases h1
    cases e with
    | lst b=>rw [D.py] at h2;obtain ⟨qs,hq,rfl⟩:=Option.map_eq_some_iff.mp h2;rw [PyData.eqv];rfl
    | tup b=>rw [D.py] at h2;obtain ⟨qs,hq,rfl⟩:=Option.map_eq_some_iff.mp h2;rw [PyData.eqv];rfl
    | ins _ _=>rw [D.py] at h2;cases h2
    | dk _=>rw [D.py] at h2;cases h2
    | dt _=>rw [D.py] at h2;cases h2
    | any=>rw [D.py] at h2;cases h2
    | raw _=>rw [D.py] at h2;cases h2
    | _=>rw [D.py] at h2;cases h2;rw [PyData.eqv];rfl
  | .bl x,e,p,q,h1,h2=>by
    rw [D.py] at h1;cases h1
    cases e with
    | lst b=>rw [D.py] at h2;obtain ⟨qs,hq,rfl⟩:=Option.map_eq_some_iff.mp h2;rw [PyData.eqv];rfl
    | tup b=>rw [D.py] at h2;obtain ⟨qs,hq,rfl⟩:=Option.map_eq_some_iff.mp h2;rw [PyData.eqv];rfl
    | ins _ _=>rw [D.py] at h2;cases h2
    | dk _=>rw [D.py] at h2;cases h2
    | dt _=>rw [D.py] at h2;cases h2
    | any=>rw [D.py] at h2;cases h2
    | raw _=>rw [D.py] at h2;cases h2
    | _=>rw [D.py] at h2;cases h2;rw [PyData.eqv];rfl
  | .int x,e,p,q,h1,h2=>by
    rw [D.py] at h1;cases h1
    cases e with
    | lst b=>rw [D.py] at h2;obtain ⟨qs,hq,rfl⟩:=Option.map_eq_some_iff.mp h2;rw [PyData.eqv];rfl
    | tup b=>rw [D.py] at h2;obtain ⟨qs,hq,rfl⟩:=Option.map_eq_some_iff.mp h2;rw [PyData.eqv];rfl
    | ins _ _=>rw [D.py] at h2;cases h2
    | dk _=>rw [D.py] at h2;cases h2
    | dt _=>rw [D.py] at h2;cases h2
    | any=>rw [D.py] at h2;cases h2
    | raw _=>rw [D.py] at h2;cases h2
    | _=>rw [D.py] at h2;cases h2;rw [PyData.eqv];rfl
  | .str x,e,p,q,h1,h2=>by
    rw [D.py] at h1;cases h1
    cases e with
    | lst b=>rw [D.py] at h2;obtain ⟨qs,hq,rfl⟩:=Option.map_eq_some_iff.mp h2;rw [PyData.eqv];rfl
    | tup b=>rw [D.py] at h2;obtain ⟨qs,hq,rfl⟩:=Option.map_eq_some_iff.mp h2;rw [PyData.eqv];rfl
    | ins _ _=>rw [D.py] at h2;cases h2
    | dk _=>rw [D.py] at h2;cases h2
    | dt _=>rw [D.py] at h2;cases h2
    | any=>rw [D.py] at h2;cases h2
    | raw _=>rw [D.py] at h2;cases h2
    | _=>rw [D.py] at h2;cases h2;rw [PyData.eqv];rfl
  | .ins _ _,e,p,q,h1,h2=>by rw [D.py] at h1;cases h1
  | .dk _,e,p,q,h1,h2=>by rw [D.py] at h1;cases h1
  | .dt _,e,p,q,h1,h2=>by rw [D.py] at h1;cases h1
  | .any,e,p,q,h1,h2=>by rw [D.py] at h1;cases h1
  | .raw _,e,p,q,h1,h2=>by rw [D.py] at h1;cases h1
  | .kt a,e,p,q,h1,h2=>by
    rw [D.py] at h1
    cases h1
    cases e with
    | tup b=>
      rw [D.py] at h2
      obtain ⟨qs,hq,rfl⟩:=Option.map_eq_some_iff.mp h2
      rw [PyData.eqv,eqD];exact (aix a b qs hq).1
    | kt b=>
      rw [D.py] at h2
      cases h2
      rw [PyData.eqv,eqD];exact ak0 a b
    | lst b=>
      rw [D.py] at h2
      obtain ⟨qs,hq,rfl⟩:=Option.map_eq_some_iff.mp h2
      rw [PyData.eqv];rfl
    | ins _ _=>rw [D.py] at h2;cases h2
    | dk _=>rw [D.py] at h2;cases h2
    | dt _=>rw [D.py] at h2;cases h2
    | any=>rw [D.py] at h2;cases h2
    | raw _=>rw [D.py] at h2;cases h2
    | _=>rw [D.py] at h2;cases h2;rw [PyData.eqv];rfl
theorem aiy:∀ (a b:List D) (ps qs:List PyData),D.pyAll a=some ps->D.pyAll b=some qs->PyData.eqvAll ps qs=eqDs a b
  | [],[],ps,qs,h1,h2=>by rw [D.pyAll] at h1 h2;cases h1;cases h2;rfl
  | [],y::b,ps,qs,h1,h2=>by
    rw [D.pyAll] at h1;rw [D.pyAll] at h2;cases h1
    split at h2<;>cases h2
    rfl
  | x::a,[],ps,qs,h1,h2=>by
    rw [D.pyAll] at h1;rw [D.pyAll] at h2;cases h2
    split at h1<;>cases h1
    rfl
  | x::a,y::b,ps,qs,h1,h2=>by
    rw [D.pyAll] at h1 h2
    split at h1
    · rename_i p' ps' e1 e2
      cases h1
      split at h2
      · rename_i q' qs' e3 e4
        cases h2
        rw [PyData.eqvAll,eqDs,amr x y p' q' e1 e3,aiy a b ps' qs' e2 e4]
      · cases h2
    · cases h1
end
theorem anG {b:Nat} {d:D} (h:Fine b d) (hd:dep d<=60:=by decide) (hb:0 < b:=by decide) (hb2:b<=500:=by decide):∃ p,d.py=some p/\SeqAt.shaped p=true:=by
  obtain ⟨p,w⟩:=ag6 hb hb2 d h
  exact ⟨p,w.py,by simp [SeqAt.shaped,w.lay,Nat.le_trans w.dp (show dep d<=64 by omega)]⟩
theorem ano {n:Bool} {v w:DV} {d e:D} {Q:DV->Prop} (hv:v.dat=some d) (hw:w.dat=some e) (h1:∃ p,d.py=some p/\SeqAt.shaped p=true) (h2:∃ p,e.py=some p/\SeqAt.shaped p=true) (q:Q (.d (.bl (if n then !eqD d e else eqD d e)))):eqR n v w Q:=by
  obtain ⟨p,p1,p2⟩:=h1
  obtain ⟨p',p3,p4⟩:=h2
  unfold eqR
  split
  · cases hv;cases hw
    exact q
  · cases hv;cases hw
    rename_i i j
    have z:eqD (.str i) (.str j)=decide (i=j):=by
      show (i == j)=_
      rw [Bool.eq_iff_iff];simp
    rw [z] at q
    exact q
  · cases hv;cases hw
    rename_i i j
    have z:eqD (.bl i) (.bl j)=decide (i=j):=by
      show (i == j)=_
      rw [Bool.eq_iff_iff];simp
    rw [z] at q
    exact q
  · unfold eqDeep
    rw [hv,hw]
    dsimp only
    rw [p1,p3]
    refine ⟨p2,p4,?_⟩
    rw [amr d e p p' p1 p3]
    exact q
theorem ai9:∀ {a b:List D},eqDs a b=true->a.length=b.length
  | [],[],_=>rfl
  | [],_::_,h=>by rw [eqDs] at h<;>first | cases h | (intros;simp_all)
  | _::_,[],h=>by rw [eqDs] at h<;>first | cases h | (intros;simp_all)
  | _::r,_::s,h=>by
    rw [eqDs,Bool.and_eq_true] at h
    rw [List.length_cons,List.length_cons,ai9 h.2]
theorem anH {a b:List D} (h:a.length≠b.length):eqDs a b=false:=by
  cases e:eqDs a b with
  | false=>rfl
  | true=>exact absurd (ai9 e) h
theorem ah8 (x y:Str):(x++y).length=x.length + y.length:=by
  show (x.cps++y.cps).size=x.cps.size + y.cps.size
  rw [Array.size_append]
def pubSl (i:Nat) (sl:DSt):DSt:=match sl[i]? with
  | some (some (.own o))=>sl.set i (some (.d (pubO o)))
  | _=>sl
def dPub (i:Nat) (t:TDS):TDS:=fun E sl=>t E (pubSl i sl)
theorem Rep.pubS {K:PySem.W.Frag} {G:Hp} {so:So} {σ:L2.St} {H:Hp} {sl:DSt} (i:Nat) (rep:Rep K G so σ H sl):∃ G',Post K G so σ H sl H G' (pubSl i sl):=by
  unfold pubSl
  split
  · rename_i o e
    obtain ⟨v,e1,w⟩:=rep.slots i _ e
    obtain ⟨a,qa,g,s,ok⟩:=w
    subst qa
    obtain ⟨u,eu,dk⟩:=akm ok g
    have others:∀ b,Own (sl.set i (some (.d (pubO o)))) σ b->Own sl σ b/\b≠a:=fun b z=>by
      rcases own_set z with ⟨k1,k2⟩ | ⟨k1,j,ne,o',k2,k3⟩
      · exact ⟨k1,fun z=>k2 (z ▸ e1)⟩
      · exact ⟨k1,fun z=>ne (rep.sep j i o' o a k2 e (z ▸ k3) e1)⟩
    refine ⟨upd G a u,{ ex:=Ex.new g,rep:=⟨afi rep.h eu g s,by rw [List.length_set];exact rep.len,fun j d ej=>?_,fun j k o1 o2 b e1' e2' e3 e4=>?_,fun j o1 b e1' e2' z=>?_,fun j o1 z=>?_⟩,keep:=fun _ _ z _=>z,frm:=fun b n1 g1 s1 w=>?_,sub:=fun b z=>(others b z).1,bsub:=fun j o1 z=>?_ }⟩
    · by_cases ji:j=i
      · subst ji
        rw [List.getElem?_set] at ej
        split at ej
        · split at ej
          · cases ej;exact ⟨_,e1,dk⟩
          · cases ej
        · rename_i k;exact absurd rfl k
      · rw [List.getElem?_set_ne (Ne.symm ji)] at ej
        obtain ⟨w',f1,f2⟩:=rep.slots j d ej
        refine ⟨w',f1,SlOk.keep f2 (by first | exact rep.h.ok | exact q.rep.h.ok) (Ex.new g) (fun _ _ z _=>z) fun b o' ed qb=>?_⟩
        subst ed;subst qb
        have z:b≠a:=fun z=>ji (rep.sep j i o' o a ej e (z ▸ f1) e1)
        rw [upd_ne z];exact (rep.nown ⟨j,o',ej,f1⟩).2.1
    · have f:∀ (m:Nat) (o3:OO),(sl.set i (some (.d (pubO o))))[m]?=some (some (.own o3))->sl[m]?=some (some (.own o3)):=fun m o3 em=>by
        rcases get_set em with ⟨_,z⟩ | ⟨_,z⟩
        · cases z
        · exact z
      exact rep.sep j k o1 o2 b (f _ _ e1') (f _ _ e2') e3 e4
    · rcases get_set e1' with ⟨_,y⟩ | ⟨ne,y⟩
      · cases y
      · exact rep.bor j o1 b y e2' (others b z).1
    · rcases get_set z with ⟨_,y⟩ | ⟨ne,y⟩
      · cases y
      · exact rep.nse j o1 y
    · have z:b≠a:=fun z=>w ⟨i,o,e,z ▸ e1⟩
      rw [upd_ne z];exact g1
    · rcases get_set z with ⟨_,y⟩ | ⟨ne,y⟩
      · cases y
      · exact ⟨o1,y⟩
  · exact ⟨G,.refl rep⟩
theorem ams {X:Cx} {W:WX} {st:Stmt} {t:TDS} {i:Nat} (h:DS X W st t):DS X W st (dPub i t):=adu h fun D σ H ⟨G,so,sl,E,rep,q,ok⟩=>by
  obtain ⟨G',p⟩:=rep.pubS i
  exact ⟨G',so,_,E,p.rep,q,ok.step p.s⟩
structure Sm (b d w:Nat) (x:D):Prop where
  f:Fine b x
  d:dep x<=d
  w:wt b x<=w
structure Sms (b d w:Nat) (xs:List D):Prop where
  f:Fines b xs
  d:deps xs<=d
  w:wts b xs<=w
section
variable {b d w d' w' m:Nat} {x:D} {xs ys:List D}
theorem Sm.mono (h:Sm b d w x) (h1:d<=d') (h2:w<=w'):Sm b d' w' x:=⟨h.f,Nat.le_trans h.d h1,Nat.le_trans h.w h2⟩
theorem Sms.mono (h:Sms b d w xs) (h1:d<=d') (h2:w<=w'):Sms b d' w' xs:=⟨h.f,Nat.le_trans h.d h1,Nat.le_trans h.w h2⟩
theorem acu:Sms b 0 0 []:=⟨by simp [Fines],by simp [deps],by simp [wts]⟩
theorem aaW (h:Sm b d w x) (t:Sms b d' w' xs):Sms b (max d d') (w + 2 + w') (x::xs):=⟨fcons h.f t.f,by rw [deps];have:=h.d;have:=t.d;omega,by rw [wts];have:=h.w;have:=t.w;omega⟩
theorem afC (h:∀ x∈xs,Sm b d w x) (hl:xs.length<=m):Sms b d (m * (w + 2)) xs:=by
  induction xs generalizing m with
  | nil=>exact acu.mono (by omega) (by omega)
  | cons x r ih=>
    obtain ⟨k,rfl⟩:∃ k,m=k + 1:=⟨m - 1,by simp at hl;omega⟩
    have z:=ih (m:=k) (fun y hy=>h y (List.mem_cons_of_mem _ hy)) (by simpa using hl)
    have z1:=aaW (h x (List.mem_cons_self ..)) z
    refine z1.mono (by omega) ?_
    rw [Nat.succ_mul];omega
theorem aiL (h:Sms b d w xs):Sm b (d + 1) (w + 3) (.tup xs):=⟨ftup h.f,by rw [dep];have:=h.d;omega,by rw [wt];have:=h.w;omega⟩
theorem aeu (h:Sms b d w xs):Sm b (d + 1) (w + 3) (.lst xs):=⟨flst h.f,by rw [dep];have:=h.d;omega,by rw [wt];have:=h.w;omega⟩
theorem agA {i:Int} (h:i.natAbs < 10 ^ b):Sm b 0 (b + 1) (.int i):=⟨fint h,Nat.le_refl _,by rw [wt];omega⟩
theorem sm_bl {i:Bool}:Sm b 0 5 (.bl i):=⟨fbl,Nat.le_refl _,Nat.le_refl _⟩
theorem an4:Sm b 0 5 .non:=⟨fnon,Nat.le_refl _,Nat.le_refl _⟩
theorem ae1 {z:Str} (h:∀ c∈z.cps.toList,c < 0x110000) (hl:z.length<=m):Sm b 0 (10 * m + 2) (.str z):=⟨fstr h,Nat.le_refl _,by rw [wt];omega⟩
theorem an3 {q:Rat} (h1:q.num.natAbs < 10 ^ b) (h2:q.den < 10 ^ b):Sm b 1 (b + b + 9) (rD q):=
  (aiL (aaW (agA h1) (aaW (agA (i:=(q.den:Int)) (by omega)) acu))).mono (by omega) (by omega)
theorem Sm.sh (h:Sm b d w x) (hd:d<=60:=by decide) (hb:0 < b:=by decide) (hb2:b<=500:=by decide):∃ p,x.py=some p/\SeqAt.shaped p=true:=anG h.f (Nat.le_trans h.d hd) hb hb2
theorem adF {Q:DV->Prop} {E:XE'} {ds es:List D} (he:ds=es) (h:Sms b d w es) (q:Q (.d (.bl true))) (h1:d<=60:=by decide) (h2:w<=16000000:=by decide) (hb:0 < b:=by decide) (hb2:b<=500:=by decide):spSame [.d (.tup ds),.d (.tup es)] Q E:=alA b he h.f q (Nat.le_trans h.d h1) (Nat.le_trans h.w h2) hb hb2
end
def okS (z:Str):Prop:=∀ c∈z.cps.toList,c < 0x110000
theorem aig (s:String):okS (Str.ofString s):=by
  intro c hc
  rw [Str.ofString_eq_toList] at hc
  have hc':c∈s.toList.map Char.toNat:=hc
  obtain ⟨ch,_,rfl⟩:=List.mem_map.mp hc'
  have:=ch.valid
  have h2:ch.toNat.isValidChar:=this
  rcases h2 with h2 | h2<;>omega
theorem aiz (a b:List D):eqD (.lst a) (.lst b)=eqDs a b:=by rw [eqD]
theorem ag7 (a:List D):eqDs a []=a.isEmpty:=by
  cases a with
  | nil=>rw [eqDs];rfl
  | cons x r=>exact anH (by simp)
theorem afO {args:List DV} (h:∀ x∈args,Lent x\/x=.src) (i:Nat) (o:OO):args[i]?≠some (.see o):=fun e=>by
  rcases h _ (List.mem_of_getElem? e) with (⟨d,y⟩ | ⟨ds,y⟩) | y<;>cases y
mutual
def nk:D->Bool
  | .lst ds=>nks ds
  | .tup ds=>nks ds
  | .kt _=>false
  | _=>true
def nks:List D->Bool
  | []=>true
  | d::r=>nk d && nks r
end
theorem anF {K:PySem.W.Frag} {te:TD} {u:TDS} {E:EndsD} {sl s':DSt} {i:Nat} {f:Str} {x C:Addr} {fs:List (Str × D)} (d:D) (c:Cls K C) (n:NoAttr K C f) (h:∀ Q:DV->DSt->Prop,(∀ v,pubV v=.d d->Q v s')->te sl Q E.xc) (q:u E (s'.set i (some (.own (.ins x C (putD f d fs)))))) (hl:fs.length < 1000:=by exact Nat.le_of_ble_eq_true rfl) (e:s'[i]?=some (some (.own (.ins x C fs))):=by rfl):dSeq (dFldSet K te i f) u E sl:=by
  refine h _ fun v pv=>?_
  show (match s'[i]?,pubV v with
    | some (some (.own (.ins x C fs))),.d d=>Cls K C/\NoAttr K C f/\fs.length < 1000/\u E (s'.set i (some (.own (.ins x C (putD f d fs)))))
    | _,_=>False)
  rw [e,pv]
  exact ⟨c,n,hl,q⟩
def valD {κ:Type} [DecidableEq κ] (kvs:List (κ × D)) (k:κ):Option D:=(kvs.find? fun kv=>decide (kv.1=k)).map (·.2)
def keyOf:D->Option Key
  | .int i=>some (.inl i)
  | .str z=>some (.inr z)
  | _=>none
theorem aeo {κ:Type} [DecidableEq κ] {p:κ × D} {r:List (κ × D)} {k:κ} (e:p.1=k):valD (p::r) k=some p.2:=by simp [valD,List.find?_cons,e]
theorem aep {κ:Type} [DecidableEq κ] {p:κ × D} {r:List (κ × D)} {k:κ} (e:¬ p.1=k):valD (p::r) k=valD r k:=by simp [valD,List.find?_cons,e]
section
variable {K:PySem.W.Frag} {G H:Hp} {so:So} {v:V} {dv:DV}
theorem FAll.valS {κ:Type} [DecidableEq κ] {k:κ}:∀ {vs:List (κ × V)} {kvs:List (κ × D)} {d:D},FAll K G vs kvs->valD kvs k=some d->∃ v,valV vs k=some v/\DOk K G v d
  | _,_,_,.nil,e=>by cases e
  | _,_,d,.cons (x:=x) h t,e=>by
    by_cases z:x=k
    · rw [aeo z] at e;cases e;exact ⟨_,valV_pos z,h⟩
    · rw [aep z] at e
      obtain ⟨v,e1,e2⟩:=FAll.valS t e
      exact ⟨v,by rw [valV_neg z];exact e1,e2⟩
theorem FAll.valN {κ:Type} [DecidableEq κ] {k:κ}:∀ {vs:List (κ × V)} {kvs:List (κ × D)},FAll K G vs kvs->valD kvs k=none->valV vs k=none
  | _,_,.nil,_=>rfl
  | _,_,.cons (x:=x) h t,e=>by
    by_cases z:x=k
    · rw [aeo z] at e;cases e
    · rw [aep z] at e
      rw [valV_neg z];exact FAll.valN t e
theorem FAll.keys {κ:Type}:∀ {vs:List (κ × V)} {kvs:List (κ × D)},FAll K G vs kvs->vs.map (·.1)=kvs.map (·.1)
  | _,_,.nil=>rfl
  | _,_,.cons _ t=>by rw [List.map_cons,List.map_cons,FAll.keys t]
theorem FAll.len {κ:Type} {vs:List (κ × V)} {kvs:List (κ × D)} (h:FAll K G vs kvs):vs.length=kvs.length:=by
  have:=congrArg List.length h.keys
  simpa using this
theorem ai4 {d:D} {k:Key} (w:DOk K G v d) (e:keyOf d=some k):v=kV k:=by
  cases w<;>cases e<;>rfl
theorem anu (k:Key):DOk K G (kV k) (keyD k):=by
  cases k with
  | inl i=>exact .int i
  | inr z=>exact .str z
def DV.dkv:DV->Option (List (Key × D))
  | .d (.dk k)=>some k
  | .own (.dk k)=>some k
  | .bor (.dk k)=>some k
  | .see (.dk k)=>some k
  | _=>none
theorem VOk.dkr {kvs:List (Key × D)} (h:HRep K G so H) (w:VOk K G so H v dv) (e:dv.dkv=some kvs):∃ a vs,v=.ref a/\Rd H a (.dK vs)/\FAll K G vs kvs:=by
  unfold DV.dkv at e
  split at e
  · cases e
    cases w with
    | dk g f=>exact ⟨_,_,rfl,.inr ⟨_,h.ex _ _ g⟩,f⟩
  · cases e;obtain ⟨a,rfl,_,_,vs,q,r⟩:=w;exact ⟨a,vs,rfl,.inl q,r⟩
  · cases e;obtain ⟨a,rfl,_,o,vs,q,r⟩:=w;exact ⟨a,vs,rfl,.inr ⟨o,q⟩,r⟩
  · cases e;obtain ⟨a,rfl,_,vs,q,r⟩:=w;exact ⟨a,vs,rfl,.inl q,r⟩
  · cases e
end
@[irreducible] def dgetR (x y:DV) (Q:DV->Prop):Prop:=match x.dkv,y with
  | some kvs,.d k=>(match keyOf k with
    | some key=>(match valD kvs key with
      | some d=>Q (.d d)
      | none=>False)
    | none=>False)
  | _,_=>False
@[irreducible] def dinR (neg:Bool) (x y:DV) (Q:DV->Prop):Prop:=match x,y.dkv with
  | .d k,some kvs=>(match keyOf k with
    | some key=>Q (.d (.bl (if neg then !(valD kvs key).isSome else (valD kvs key).isSome)))
    | none=>False)
  | _,_=>False
section
variable {X:Cx} {W:WX} {a b:Expr} {ta tb:TD} {pos:Pos}
theorem adQ (hu:X.A.units + 64 < cLine) (ha:DE X W a ta) (hb:DE X W b tb) (hs:NoSl b:=by exact fun _ _=>rfl):DE X W (.Subscript a b pos) (dOp dgetR ta tb):=by
  refine aa3 (pe_dget (by omega) ha hb hs) fun σ H R ⟨G,so,sl,Q,E,rep,q,hq,hx⟩=>?_
  refine ⟨G,so,sl,_,E,rep,q,fun x H1 G1 dx s1 p1 h1=>?_,hx⟩
  refine ⟨G1,so,s1,_,E,p1.rep,h1,fun y H2 G2 dy s2 p2 h2=>?_,hx.step p1.toPost⟩
  unfold dgetR at h2
  split at h2
  · rename_i kvs k e
    split at h2
    · rename_i key ek
      split at h2
      · rename_i d ed
        obtain ⟨c,vs,rfl,rd,fa⟩:=VOk.dkr p2.rep.h (p1.over p2.toPost) e
        obtain ⟨v,e1,e2⟩:=fa.valS ed
        have ey:=ai4 (show DOk X.K G2 y k from p2.val) ek
        exact ⟨c,v,rfl,.inl ⟨vs,key,rd,ey,e1.symm⟩,hq v H2 G2 _ s2 ((p1.toPost.trans p2.toPost).thenV (.dat p2.rep.h e2)) h2⟩
      · exact h2.elim
    · exact h2.elim
  · exact h2.elim
theorem aoO (hu:X.A.units + 64 < cLine) (ha:DE X W a ta) (hb:DE X W b tb) (hm:behindInMarks .In b=false:=by rfl):DE X W (.Compare a [.In] [b] pos) (dOp (dinR false) ta tb):=by
  refine aa3 (pe_cmp (pc_din (by omega) ha hb) hm) fun σ H R ⟨G,so,sl,Q,E,rep,q,hq,hx⟩=>?_
  refine ⟨G,so,sl,_,E,rep,q,fun x H1 G1 dx s1 p1 h1=>?_,hx⟩
  refine ⟨G1,so,s1,_,E,p1.rep,h1,fun y H2 G2 dy s2 p2 h2=>?_,hx.step p1.toPost⟩
  unfold dinR at h2
  split at h2
  · rename_i k kvs e
    split at h2
    · rename_i key ek
      obtain ⟨c,vs,rfl,rd,fa⟩:=VOk.dkr p2.rep.h p2.val e
      have ey:=ai4 (show DOk X.K G2 x k from p1.over p2.toPost) ek
      have e1:(valV vs key).isSome=(valD kvs key).isSome:=by
        cases z:valD kvs key with
        | none=>rw [fa.valN z];rfl
        | some d=>obtain ⟨v,e1,_⟩:=fa.valS z;rw [e1];rfl
      refine ⟨c,valV vs key,rfl,.inl ⟨vs,key,rd,ey,rfl⟩,?_⟩
      rw [e1]
      exact hq _ H2 G2 _ s2 ((p1.toPost.trans p2.toPost).thenV (.dat p2.rep.h (.bl _))) h2
    · exact h2.elim
  · exact h2.elim
theorem ajL {X:Cx}:CallR X (.builtin "len") (fun xs H Q=>∃ a kvs,xs=[V.ref a]/\Rd H a (.dK kvs)/\Q (.int kvs.length) H):=by
  intro pins s σ H xs us Q I r h
  obtain ⟨a,kvs,rfl,rd,q⟩:=h
  obtain rfl:=Vals.ref1 r
  exact d_len I rd fun t s' I'=>⟨.int _,H,I',⟨t,rfl⟩,q⟩
end
section
variable {K:PySem.W.Frag}
@[irreducible] def lenDR:List DV->(DV->Prop)->Prop
  | [v],Q=>(match v.dkv with
    | some kvs=>Q (.d (.int kvs.length))
    | none=>False)
  | _,_=>False
theorem ajZ:CallSem K (fun xs H Q=>∃ a kvs,xs=[V.ref a]/\Rd H a (.dK kvs)/\Q (.int kvs.length) H) lenDR:=by
  intro G so H xs dxs Q R h w q k
  unfold lenDR at q
  split at q
  · obtain ⟨v,rfl,w1,_⟩:=w.v1
    split at q
    · rename_i kvs e
      obtain ⟨c,vs,rfl,rd,fa⟩:=VOk.dkr h w1 e
      refine ⟨c,vs,rfl,rd,k _ H G _ (.dat h (.int _)) ?_⟩
      rw [fa.len];exact q
    · exact q.elim
  · exact q.elim
theorem DAll.strs {G:Hp}:∀ (ys:List Str),DAll K G (ys.map V.str) (ys.map D.str)
  | []=>.nil
  | y::r=>.cons (.str y) (DAll.strs r)
@[irreducible] def sortDR:List DV->(DV->Prop)->Prop
  | [v],Q=>(match v.dkv with
    | some kvs=>∃ ks:List Str,kvs.map (·.1)=ks.map Sum.inr/\ks.length < 64/\∀ ys:List Str,ys.Perm ks->sortedS ys=true->Q (.own (.lst (ys.map .str)))
    | none=>False)
  | _,_=>False
theorem afD:CallSem K (fun xs H Q=>∃ (a:Addr) (kvs:List (Key × V)) (ks:List Str),xs=[.ref a]/\Rd H a (.dK kvs)/\kvs.map (·.1)=ks.map Sum.inr/\ks.length < 64/\
    ∀ ys p,ys.Perm ks->sortedS ys=true->H p=none->Q (.ref p) (upd H p (.lst (ys.map V.str)))) sortDR:=by
  intro G so H xs dxs Q R h w q k
  unfold sortDR at q
  split at q
  · obtain ⟨v,rfl,w1,_⟩:=w.v1
    split at q
    · rename_i kvs e
      obtain ⟨c,vs,rfl,rd,fa⟩:=VOk.dkr h w1 e
      obtain ⟨ks,e1,e2,q⟩:=q
      exact ⟨c,vs,ks,rfl,rd,by rw [fa.keys];exact e1,e2,fun ys p hp hs n=>k _ _ G _ (.list h n (DAll.strs ys)) (q ys hp hs)⟩
    · exact q.elim
  · exact q.elim
@[irreducible] def sortSR:List DV->(DV->Prop)->Prop
  | [v],Q=>(match v.items with
    | some ds=>(match strsD ds with
      | some ks=>ks.length < 64/\∀ ys:List Str,ys.Perm ks->sortedS ys=true->Q (.own (.lst (ys.map .str)))
      | none=>False)
    | none=>False)
  | _,_=>False
theorem ajW:CallSem K (rSortedS K) sortSR:=by
  intro G so H xs dxs Q R h w q k
  unfold sortSR at q
  split at q
  · obtain ⟨v,rfl,w1,_⟩:=w.v1
    split at q
    · rename_i ds e
      obtain ⟨c,vs,rfl,g1,a1⟩:=VOk.list h w1 e
      split at q
      · rename_i ks e2
        refine ⟨c,ks,rfl,by rw [<- afB a1 e2];exact SqL.of g1,q.1,fun ys p hp hs n=>k _ _ G _ (.list h n (DAll.strs ys)) (q.2 ys hp hs)⟩
      · exact q.elim
    · exact q.elim
  · exact q.elim
@[irreducible] def anyR:List DV->(DV->Prop)->Prop
  | [v],Q=>(match v.items with
    | some ds=>(match bools ds with
      | some bs=>Q (.d (.bl (bs.any id)))
      | none=>False)
    | none=>False)
  | _,_=>False
theorem amR:CallSem K (rAny K) anyR:=by
  intro G so H xs dxs Q R h w q k
  unfold anyR at q
  split at q
  · obtain ⟨v,rfl,w1,_⟩:=w.v1
    split at q
    · rename_i e
      obtain ⟨a,vs,rfl,g1,a1⟩:=VOk.list h w1 e
      split at q
      · rename_i bs eb
        exact ⟨a,bs,rfl,by rw [<- ahc a1 eb];exact SqL.of g1,k _ H G _ (.dat h (.bl _)) q⟩
      · exact q.elim
    · exact q.elim
  · exact q.elim
def isNonD:D->Option Bool
  | .non=>some true
  | .any=>none
  | .raw _=>none
  | _=>some false
@[irreducible] def isNR (neg:Bool):DV->DV->(DV->Prop)->Prop
  | x,.d .non,Q=>(match x.dat with
    | some d=>(match isNonD d with
      | some b=>Q (.d (.bl (if neg then !b else b)))
      | none=>False)
    | none=>False)
  | _,_,_=>False
theorem aoC {G H:Hp} {so:So} {v:V} {dv:DV} {d:D} {b:Bool} (w:VOk K G so H v dv) (e:dv.dat=some d) (q:isNonD d=some b):decide (v=.non)=b:=by
  have ow:∀ {o:OO},isNonD (pubO o)=some b->b=false:=fun {o} z=>by cases o<;>cases z<;>rfl
  cases dv with
  | src=>cases e
  | mu _ _ _=>cases e
  | gh _ _=>cases e
  | own o=>cases e;obtain ⟨a,rfl,_⟩:=w;rw [ow q];rfl
  | bor o=>cases e;obtain ⟨a,rfl,_⟩:=w;rw [ow q];rfl
  | see o=>cases e;obtain ⟨a,rfl,_⟩:=w;rw [ow q];rfl
  | d x=>
    cases e
    cases w<;>cases q<;>rfl
end
section
variable {K:PySem.W.Frag}
theorem agM:OpSem K (fun x y H Q=>y=.non/\Q (.bl (!decide (x=.non))) H) (isNR true):=by
  intro G so H x y dx dy Q R h wx wy q k
  unfold isNR at q
  split at q
  · cases wy
    split at q
    · rename_i d e
      split at q
      · rename_i b eb
        refine ⟨rfl,?_⟩
        rw [aoC wx e eb]
        exact k _ H G _ (.dat h (.bl _)) q
      · exact q.elim
    · exact q.elim
  · exact q.elim
theorem akM {n b:Bool} {x:DV} {d:D} {Q:DV->Prop} (e:x.dat=some d) (h:isNonD d=some b) (q:Q (.d (.bl (if n then !b else b)))):isNR n x (.d .non) Q:=by
  unfold isNR
  dsimp only
  rw [e]
  dsimp only
  rw [h];exact q
theorem aeC {x:DV} {kvs:List (Key × D)} {k:D} {key:Key} {d:D} {Q:DV->Prop} (h1:x.dkv=some kvs) (h2:keyOf k=some key) (h3:valD kvs key=some d) (q:Q (.d d)):dgetR x (.d k) Q:=by
  unfold dgetR
  rw [h1]
  dsimp only
  rw [h2]
  dsimp only
  rw [h3];exact q
theorem l_din {n:Bool} {x:DV} {kvs:List (Key × D)} {k:D} {key:Key} {Q:DV->Prop} (h1:x.dkv=some kvs) (h2:keyOf k=some key) (q:Q (.d (.bl (if n then !(valD kvs key).isSome else (valD kvs key).isSome)))):dinR n (.d k) x Q:=by
  unfold dinR
  rw [h1]
  dsimp only
  rw [h2];exact q
theorem ang {x:DV} {kvs:List (Key × D)} {Q:DV->Prop} (h1:x.dkv=some kvs) (q:Q (.d (.int kvs.length))):lenDR [x] Q:=by
  unfold lenDR
  dsimp only
  rw [h1];exact q
theorem air {x:DV} {kvs:List (Key × D)} {ks:List Str} {Q:DV->Prop} (h1:x.dkv=some kvs) (h2:kvs.map (·.1)=ks.map Sum.inr) (h3:ks.length < 64) (q:∀ ys:List Str,ys.Perm ks->sortedS ys=true->Q (.own (.lst (ys.map .str)))):sortDR [x] Q:=by
  unfold sortDR
  dsimp only
  rw [h1];exact ⟨ks,h2,h3,q⟩
theorem and {x:DV} {ds:List D} {ks:List Str} {Q:DV->Prop} (h1:x.items=some ds) (h2:strsD ds=some ks) (h3:ks.length < 64) (q:∀ ys:List Str,ys.Perm ks->sortedS ys=true->Q (.own (.lst (ys.map .str)))):sortSR [x] Q:=by
  unfold sortSR
  dsimp only
  rw [h1]
  dsimp only
  rw [h2];exact ⟨h3,q⟩
theorem l_any {v:DV} {ds:List D} {bs:List Bool} {Q:DV->Prop} (hv:v.items=some ds) (hb:bools ds=some bs) (q:Q (.d (.bl (bs.any id)))):anyR [v] Q:=by
  unfold anyR
  dsimp only
  rw [hv]
  dsimp only
  rw [hb];exact q
end
def putKD {κ:Type} [DecidableEq κ] (kvs:List (κ × D)) (k:κ) (d:D):List (κ × D):=if (kvs.any fun kv=>decide (kv.1=k))=true then kvs.map fun kv=>if kv.1=k then (kv.1,d) else kv else kvs++[(k,d)]
section
variable {K:PySem.W.Frag} {G:Hp}
theorem FAll.any_eq {κ:Type} [DecidableEq κ] (k:κ):∀ {vs:List (κ × V)} {kvs:List (κ × D)},FAll K G vs kvs->(vs.any fun kv=>decide (kv.1=k))=kvs.any fun kv=>decide (kv.1=k)
  | _,_,.nil=>rfl
  | _,_,.cons _ t=>by rw [List.any_cons,List.any_cons,FAll.any_eq k t]
theorem FAll.app {κ:Type}:∀ {vs ws:List (κ × V)} {kvs mvs:List (κ × D)},FAll K G vs kvs->FAll K G ws mvs->FAll K G (vs++ws) (kvs++mvs)
  | _,_,_,_,.nil,h=>h
  | _,_,_,_,.cons a t,h=>.cons a (FAll.app t h)
theorem FAll.repl {κ:Type} [DecidableEq κ] {k:κ} {v:V} {d:D} (w:DOk K G v d):∀ {vs:List (κ × V)} {kvs:List (κ × D)},FAll K G vs kvs->FAll K G (vs.map fun kv=>if kv.1=k then (kv.1,v) else kv) (kvs.map fun kv=>if kv.1=k then (kv.1,d) else kv)
  | _,_,.nil=>.nil
  | _,_,.cons (x:=x) h t=>by
    rw [List.map_cons,List.map_cons]
    by_cases z:x=k
    · rw [if_pos z,if_pos z];exact .cons w (FAll.repl w t)
    · rw [if_neg z,if_neg z];exact .cons h (FAll.repl w t)
theorem FAll.putK {κ:Type} [DecidableEq κ] {k:κ} {v:V} {d:D} {vs:List (κ × V)} {kvs:List (κ × D)} (h:FAll K G vs kvs) (w:DOk K G v d):FAll K G (L2.putK vs k v) (putKD kvs k d):=by
  unfold L2.putK putKD
  rw [h.any_eq k]
  split
  · exact h.repl w
  · exact h.app (.cons w .nil)
end
def dDNew:TD:=fun sl Q _=>Q (.own (.dk [])) sl
section
variable {X:Cx} {W:WX} {pos pos':Pos} {o k value:Expr} {te tk:TD} {i:Nat}
theorem PostV.dct {K:PySem.W.Frag} {G H:Hp} {so:So} {p:Addr} {vs:List (Key × V)} {kvs:List (Key × D)} (h:HRep K G so H) (n:H p=none) (a:FAll K G vs kvs):PostV K G so H (.ref p) (upd H p (.dK vs)) G (.own (.dk kvs)):=
  ⟨Ex.refl G,h.alloc n,fun _ _ e _=>Ex.new n _ _ e,fun _ _ g _=>g,⟨p,rfl,h.ex.free n,h.there n,vs,upd_same,a⟩,fun b o e q=>(by cases q;exact n),fun _ e=>(nomatch e)⟩
theorem anQ:DE X W (.Dict [] [] pos) dDNew:=aa3 pe_dnewK fun σ H R ⟨G,so,sl,Q,E,rep,q,hq,_⟩ p n=>
  hq _ _ G _ sl ((Post.refl rep).thenV (.dct rep.h n .nil)) q
def dDPut (te tk:TD) (i:Nat):TDS:=fun E sl=>te sl (fun y s1=>(∃ kvs,s1[i]?=some (some (.own (.dk kvs))))/\tk s1 (fun z s2=>match s2[i]?,pubV y,z with
  | some (some (.own (.dk kvs))),.d d,.d kd=>(match keyOf kd with
    | some key=>kvs.length < szl/\E.nx (s2.set i (some (.own (.dk (putKD kvs key d)))))
    | none=>False)
  | _,_,_=>False) E.xc) E.xc
theorem anK (hu:X.A.units + 64 < cLine) (ho:PE X o (tVar i)) (hk:DE X W k tk) (hv:DE X W value te) (hs:swapsWith value (some (.Subscript o k pos')) pos.line X.env=pure false:=by rfl) :
    DS X W (.Assign [.Subscript o k pos'] value pos) (dDPut te tk i):=by
  refine adu (ps_dput (by omega) ho hk hv hs) fun D σ H ⟨G,so,sl,E,rep,q,ok⟩=>?_
  refine ⟨G,so,sl,_,E.xc,rep,q,fun v H1 G1 dv s1 p1 z=>?_,ok.xc.ex⟩
  obtain ⟨G2,p2⟩:=p1.pub
  obtain ⟨⟨kvs0,e0⟩,z⟩:=z
  obtain ⟨v0,f0,a,rfl,ga,sa,vs0,h0,d0⟩:=p2.rep.slots i _ e0
  refine ⟨.ref a,f0,G2,so,s1,_,E.xc,p2.rep,z,fun y H3 G3 dk s3 p3 z3=>?_,(ok.step p2.toPost.s).xc.ex⟩
  split at z3
  · rename_i kvs d kd e1 e2
    split at z3
    · rename_i key ek
      obtain ⟨l,z3⟩:=z3
      obtain ⟨v1,f1,b,rfl,gb,sb,vs,h1,h2⟩:=p3.rep.slots i _ e1
      rw [f0] at f1
      cases f1
      have wv:DOk X.K G3 v d:=by
        have:=p2.over p3.toPost
        rw [e2] at this;exact this
      have ey:=ai4 (show DOk X.K G3 y kd from p3.val) ek
      refine ⟨a,_,rfl,.inl ⟨vs,key,h1,ey,by rw [h2.len,<- acr];exact l,rfl⟩,?_⟩
      exact ok.nx σ _ G3 _ ((p2.toPost.trans p3.toPost).s.trans (PostS.mut (o':=.dk (putKD kvs key d)) p3.rep e1 f0 ⟨_,upd_same,h2.putK wv⟩)) z3
    · exact z3.elim
  · exact z3.elim
end
theorem am0 {X:Cx} {st:Stmt} {t:TS} (h:PS X st t):PS X st (fun D σ H=>t { D with rt:=fun v H'=>∃ d u,H' d=some u/\Mut (some u)/\∀ od,D.rt v (upd H' d (.frz od u)) } σ H):=by
  refine ⟨fun pins s σ H D I hw=>thn (h.run pins s σ H _ I hw) fun f s1 q=>?_⟩
  cases f with
  | next=>exact q
  | brk=>exact q
  | cont=>exact q
  | ret v=>
    obtain ⟨x,σ',H',I2,r,d,u,hd,mu,q⟩:=q
    obtain ⟨od,I3⟩:=I2.lock hd mu
    exact ⟨x,σ',_,I3,r,q od⟩
theorem akl {X:Cx} {e:Expr} {t:TE} (h:PE X e t):PE X e (fun σ H Q=>t σ H fun v H'=>∃ d u,H' d=some u/\Mut (some u)/\∀ od,Q v (upd H' d (.frz od u))):=by
  refine ⟨fun pins s σ H Q I hw=>thn (h.run pins s σ H _ I hw) fun v s1 ⟨x,H1,I2,r,d,u,hd,mu,q⟩=>?_⟩
  obtain ⟨od,I3⟩:=I2.lock hd mu
  exact ⟨x,_,I3,r,q od⟩
def dRetD (i:Nat):TDS:=fun E sl=>∃ kvs,sl[i]?=some (some (.own (.dk kvs)))/\E.rt (.d (.dk kvs)) sl
theorem aeE {K:PySem.W.Frag} {G H:Hp} {so:So} {a:Addr} {u:HO} (h:HRep K G so H) (g:G a=none) (s:so.Nt a):HRep K (upd G a u) so (upd H a u):=
  ⟨h.ex.up,fun b k q=>by
    have z:b≠a:=fun z=>s (z ▸ ⟨k,q⟩)
    exact (h.vol b k q).keep (Ex.new g) (by rw [upd_ne z];exact (h.vol b k q).g) (upd_ne z),h.ok,ah5 h.tp⟩
theorem anI {X:Cx} {W:WX} {i:Nat} {e:Expr} {pos:Pos} (h:PE X e (tVar i)):DS X W (.Return (some e) pos) (dRetD i):=by
  refine adu (am0 (ps_ret h)) fun D σ H ⟨G,so,sl,E,rep,⟨kvs,e,q⟩,ok⟩=>?_
  obtain ⟨v,e1,a,rfl,ga,sa,vs,ha,fa⟩:=rep.slots i _ e
  have oa:Own sl σ a:=⟨i,_,e,e1⟩
  refine ⟨.ref a,e1,a,.dK vs,ha,trivial,fun od=>?_⟩
  refine ok.rt _ _ (upd G a (.frz od (.dK vs))) (.d (.dk kvs)) sl ⟨Ex.new ga,aeE rep.h ga sa,fun b o eb sb nb=>?_,fun b n1 g1 sb nb=>?_,.dk upd_same (fa.mono (Ex.new ga)),fun _ _ z=>(nomatch z),fun i x C fs ei=>by
    obtain ⟨v,_,w⟩:=rep.slots i _ ei
    exact (SlOk.muU w (Ex.new ga) sa).2.2⟩ q
  · rw [upd_ne (fun z=>nb (by rw [z];exact oa))];exact eb
  · rw [upd_ne (fun z=>nb (by rw [z];exact oa))];exact g1
def pairsD:List D->Option (List (Key × D))
  | []=>some []
  | .tup [k,d]::r=>(match keyOf k,pairsD r with
    | some key,some ps=>some ((key,d)::ps)
    | _,_=>none)
  | _=>none
def mergeD (kvs more:List (Key × D)):List (Key × D):=more.foldl (fun acc kv=>putKD acc kv.1 kv.2) kvs
section
variable {K:PySem.W.Frag} {G H:Hp}
theorem FAll.merge:∀ {ws:List (Key × V)} {mvs:List (Key × D)} {vs:List (Key × V)} {kvs:List (Key × D)},FAll K G ws mvs->FAll K G vs kvs->FAll K G (mergeK vs ws) (mergeD kvs mvs)
  | _,_,_,_,.nil,h=>h
  | _,_,_,_,.cons (x:=x) (v:=v) (d:=d) (vs:=ws) (ds:=ms) a t,h=>show FAll K G (mergeK (L2.putK _ x v) ws) (mergeD (putKD _ x d) ms) from FAll.merge t (h.putK a)
theorem aiW (ex:Ex G H):∀ {vs:List V} {ds:List D} {kvs:List (Key × D)},DAll K G vs ds->pairsD ds=some kvs->∃ (ps:List Addr) (ws:List (Key × V)),vs=ps.map V.ref/\Paired (fun p kv=>SqT K H p [kV kv.1,kv.2]) ps ws/\FAll K G ws kvs
  | _,_,_,.nil,e=>by cases e;exact ⟨[],[],rfl,.nil,.nil⟩
  | _,_,_,.cons (d:=d) h t,e=>by
    unfold pairsD at e
    split at e
    · rename_i z;cases z
    · rename_i k d' r z
      cases z
      split at e
      · rename_i key ps ek ep
        cases e
        cases h with
        | tup g al=>
          cases al with
          | cons w1 al=>
            cases al with
            | cons w2 al=>
              cases al
              obtain ⟨as,ws,rfl,h2,h3⟩:=aiW ex t ep
              have e1:=ai4 w1 ek
              subst e1
              exact ⟨_::as,(key,_)::ws,rfl,.cons (ex_t ex g) h2,.cons w2 h3⟩
      · cases e
    · cases e
end
@[irreducible] def dictPR:List DV->(DV->Prop)->Prop
  | [v],Q=>(match v.items with
    | some ds=>(match pairsD ds with
      | some kvs=>Q (.d (.dk (mergeD [] kvs)))
      | none=>False)
    | none=>False)
  | _,_=>False
def dDictP (ta:TDA):TD:=dCB dictPR ta
theorem anq {v:DV} {ds:List D} {kvs:List (Key × D)} {Q:DV->Prop} (h1:v.items=some ds) (h2:pairsD ds=some kvs) (q:Q (.d (.dk (mergeD [] kvs)))):dictPR [v] Q:=by
  unfold dictPR
  dsimp only
  rw [h1]
  dsimp only
  rw [h2];exact q
theorem al4 {X:Cx} {W:WX} {a:Expr} {ta:TDA} {p pos:Pos} (hc:X.calm=true) (hg:Gl X "dict") (hm:X.mg "dict"=none) (ha:DA X W [a] ta) (he:starEach [a] X.env=(false,eval a X.env)::starEach [] X.env:=by rfl) (hpl:(backTo pos (starEach [] X.env)).any (·.1)=false:=by rfl):DE X W (.Call (.Name "dict" p) [a] [] pos) (dDictP ta):=by
  refine aa3 (akl (pe_callTy (call_dictP hc) hg hm (by decide +kernel) ha (by decide) (by decide) he hpl)) fun σ H R ⟨G,so,sl,Q,E,rep,q,hq,hx⟩=>?_
  refine ⟨G,so,sl,_,E,rep,q,fun vs H1 G1 ds s1 p1 w h1=>?_,hx⟩
  unfold dictPR at h1
  split at h1
  · obtain ⟨v,rfl,w1,_⟩:=w.v1
    split at h1
    · rename_i es e
      split at h1
      · rename_i kvs ek
        obtain ⟨c,ws,rfl,g1,a1⟩:=VOk.list p1.rep.h w1 e
        obtain ⟨ps,ms,rfl,h2,h3⟩:=aiW p1.rep.h.ex a1 ek
        refine ⟨c,ps,ms,rfl,SqL.of g1,h2,fun l n=>⟨l,_,upd_same,trivial,fun od=>?_⟩⟩
        have gl:G1 l=none:=p1.rep.h.ex.free n
        have sl':so.Nt l:=p1.rep.h.there n
        have e2:upd (upd H1 l (.dK (mergeK [] ms))) l (.frz od (.dK (mergeK [] ms)))=upd H1 l (.frz od (.dK (mergeK [] ms))):=upd_upd
        rw [e2]
        refine hq _ _ (upd G1 l (.frz od (.dK (mergeK [] ms)))) (.d (.dk (mergeD [] kvs))) s1 (p1.thenV ⟨Ex.new gl,aeE p1.rep.h gl sl',fun b o eb sb=>?_,fun b n1 g sb=>?_,.dk upd_same ((FAll.merge h3 .nil).mono (Ex.new gl)),fun _ _ z=>(nomatch z),fun _ z=>(nomatch z)⟩) h1
        · rw [upd_ne (ne_of_none eb n)];exact eb
        · rw [upd_ne (fun z=>n1 (by rw [z];exact n))];exact g
      · exact h1.elim
    · exact h1.elim
  · exact h1.elim
@[irreducible] def keysR (x:DV) (P:List D->Prop):Prop:=match x with
  | .d (.dk kvs)=>P (kvs.map fun kv=>keyD kv.1)
  | .bor (.dk kvs)=>P (kvs.map fun kv=>keyD kv.1)
  | _=>False
def dKeys (te:TD):TDI:=fun sl Q E=>te sl (fun x s1=>keysR x fun ds=>Q ds s1) E
theorem akQ {K:PySem.W.Frag} {G H:Hp} {so:So} {σ:L2.St} {sl:DSt} {c:Addr} {o:Obj} {vs:List (Key × V)} {kvs:List (Key × D)} (e:H c=some (.frz o (.dK vs))) (fa:FAll K G vs kvs) (s:so.Nt c) (n:¬ Own sl σ c):ItD K G so σ H sl (Itk c o vs) (kvs.map fun kv=>keyD kv.1):=by
  have hl:vs.length=kvs.length:=fa.len
  refine ⟨[c],fun a ha=>?_,fun i H1 hi k=>?_,fun H1 k=>?_,fun i H1 x H2 G1 k g h1 y hi=>?_⟩
  · obtain rfl:a=c:=by simpa using ha
    exact ⟨by rw [e];simp,s,n⟩
  · rw [List.length_map] at hi
    exact ⟨by rw [k c (by simp)];exact e,by omega⟩
  · rw [List.length_map]
    exact ⟨by rw [k c (by simp)];exact e,by omega⟩
  · obtain ⟨rfl,key,v,e1,rfl⟩:=y
    have e2:(kvs.map fun kv=>keyD kv.1)[i]?=some (keyD key):=by
      have z:=congrArg (fun l=>l[i]?) fa.keys
      simp only [List.getElem?_map] at z ⊢
      rw [e1] at z
      cases q:kvs[i]? with
      | none=>rw [q] at z;cases z
      | some p=>rw [q] at z;cases p;simp at z;simp [z]
    exact ⟨_,G1,e2,.dat h1 (anu key)⟩
theorem ak8 {X:Cx} {W:WX} {tg e:Expr} {te:TD} (h:DE X W e te):DI X W tg e (dKeys te):=by
  refine ahE (pi_keys h) fun σ H R ⟨G,so,sl,Q,E,rep,q,hq,hx⟩=>?_
  refine ⟨G,so,sl,_,E,rep,q,fun x H1 G1 dx s1 p1 h1=>?_,hx⟩
  unfold keysR at h1
  split at h1
  · have w:DOk X.K G1 x (.dk _):=p1.val
    cases w with
    | dk g fa=>exact ⟨_,_,rfl,.inl ⟨_,p1.rep.h.ex _ _ g,hq _ H1 G1 _ s1 p1.toPost (akQ (p1.rep.h.ex _ _ g) fa (p1.rep.h.nsrc g) (akb p1.rep g)) h1⟩⟩
  · obtain ⟨a,rfl,sa,o,vs,g,fa⟩:=p1.val
    exact ⟨_,_,rfl,.inl ⟨_,g,hq _ H1 G1 _ s1 p1.toPost (akQ g fa sa (p1.sepv a _ (.inr rfl) rfl)) h1⟩⟩
  · exact h1.elim
theorem anh {kvs:List (Key × D)} {P:List D->Prop} (q:P (kvs.map fun kv=>keyD kv.1)):keysR (.d (.dk kvs)) P:=by unfold keysR;exact q
theorem ani {kvs:List (Key × D)} {P:List D->Prop} (q:P (kvs.map fun kv=>keyD kv.1)):keysR (.bor (.dk kvs)) P:=by unfold keysR;exact q
def dBorD (i:Nat) (t:TD):TD:=fun sl Q _=>∃ kvs,sl[i]?=some (some (.own (.dk kvs)))/\t (sl.set i (some (.bor (.dk kvs)))) (fun v s1=>s1[i]?=some (some (.bor (.dk kvs)))/\keepR v/\Q v (s1.set i (some (.own (.dk kvs))))) (fun _ _ _=>False)
section
variable {K:PySem.W.Frag} {G H:Hp} {so:So} {σ:L2.St} {sl:DSt} {i:Nat} {a:Addr} {kvs:List (Key × D)} {vs:List (Key × V)} {od:Obj}
theorem afJ {b:Addr} {o:OO} (h:Own (sl.set i (some (.bor o))) σ b):Own sl σ b/\∃ j o',j≠i/\sl[j]?=some (some (.own o'))/\σ[j]?=some (some (.ref b)):=by
  obtain ⟨j,o',e1,e2⟩:=h
  rcases get_set e1 with ⟨_,z⟩ | ⟨ne,z⟩
  · cases z
  · exact ⟨⟨j,o',z,e2⟩,j,o',ne,z,e2⟩
theorem Rep.borD (rep:Rep K G so σ H sl) (e:sl[i]?=some (some (.own (.dk kvs)))) (e1:σ[i]?=some (some (.ref a))) (ga:G a=none) (sa:so.Nt a) (ha:H a=some (.dK vs)) (fa:FAll K G vs kvs) :
    Rep K G so σ (upd H a (.frz od (.dK vs))) (sl.set i (some (.bor (.dk kvs))))/\¬ Own (sl.set i (some (.bor (.dk kvs)))) σ a:=by
  have hi:i < sl.length:=(List.getElem?_eq_some_iff.mp e).1
  have oa:Own sl σ a:=⟨i,_,e,e1⟩
  have na:¬ Own (sl.set i (some (.bor (.dk kvs)))) σ a:=fun z=>by
    obtain ⟨_,j,o',ne,z1,z2⟩:=afJ z
    exact ne (rep.sep j i o' _ a z1 e z2 e1)
  refine ⟨⟨⟨fun b o q=>?_,fun b k q=>?_,rep.h.ok,aeZ rep.h.tp (by intro _ z;cases z)⟩,by rw [List.length_set];exact rep.len,fun j d ej=>?_,fun j k o1 o2 b q1 q2 q3 q4=>?_,fun j o1 b q1 q2 z=>?_,fun j o1 z=>?_⟩,na⟩
  · rw [upd_ne (fun z=>by rw [z,ga] at q;cases q)];exact rep.h.ex b o q
  · exact (rep.h.vol b k q).keep (Ex.refl _) (rep.h.vol b k q).g (upd_ne fun z=>sa (z ▸ ⟨k,q⟩))
  · rcases get_set ej with ⟨rfl,z⟩ | ⟨ne,z⟩
    · cases z;exact ⟨_,e1,a,rfl,sa,od,vs,upd_same,fa⟩
    · obtain ⟨v,f1,f2⟩:=rep.slots j d z
      refine ⟨v,f1,?_⟩
      cases d with
      | d x=>exact f2
      | src=>exact f2
      | own o=>
        obtain ⟨b,rfl,g1,s1,k⟩:=f2
        have ab:b≠a:=fun q=>ne (rep.sep j i o _ a z e (q ▸ f1) e1)
        exact ⟨b,rfl,g1,s1,k.keep (Ex.refl _) (upd_ne ab)⟩
      | bor o=>
        obtain ⟨b,rfl,s1,k⟩:=f2
        have ab:b≠a:=fun q=>rep.bor j o b z f1 (q ▸ oa)
        exact ⟨b,rfl,s1,k.keep (Ex.refl _) (upd_ne ab)⟩
      | see o=>exact absurd z (rep.nse j o)
      | mu y D gs=>exact SlOk.muU f2 (Ex.refl _) sa
      | gh _ _=>exact SlOk.ghU f2 (Ex.refl _) sa
  · rcases get_set q1 with ⟨_,z⟩ | ⟨_,z1⟩
    · cases z
    · rcases get_set q2 with ⟨_,z⟩ | ⟨_,z2⟩
      · cases z
      · exact rep.sep j k o1 o2 b z1 z2 q3 q4
  · rcases get_set q1 with ⟨rfl,y⟩ | ⟨ne,y⟩
    · rw [e1] at q2;cases q2;exact na z
    · exact rep.bor j o1 b y q2 (afJ z).1
  · rcases get_set z with ⟨_,y⟩ | ⟨ne,y⟩
    · cases y
    · exact rep.nse j o1 y
theorem anR {X:Cx} {W:WX} {e:Expr} {t:TD} (h:DE X W e t):DE X W e (dBorD i t):=by
  refine aa3 (pe_lock h) fun σ H R ⟨G,so,sl,Q,E,rep,⟨kvs,e,q⟩,hq,hx⟩=>?_
  obtain ⟨v,e1,a,rfl,ga,sa,vs,ha,fa⟩:=rep.slots i _ e
  have hi:i < sl.length:=(List.getElem?_eq_some_iff.mp e).1
  have oa:Own sl σ a:=⟨i,_,e,e1⟩
  refine ⟨a,.dK vs,ha,trivial,fun od=>?_⟩
  obtain ⟨rep',na⟩:=rep.borD (od:=od) e e1 ga sa ha fa
  have up_a:∀ b,b≠a->upd H a (.frz od (.dK vs)) b=H b:=fun b n=>upd_ne n
  refine ⟨G,so,_,_,_,rep',q,fun v H' G' dv sl' p z=>?_,fun _ _ _ _ _ _ _ _ z=>z.elim⟩
  obtain ⟨z0,z1,z2⟩:=z
  have hi':i < sl'.length:=(List.getElem?_eq_some_iff.mp z0).1
  have g':G' a=none:=p.frm a (by rw [upd_same];simp) ga sa na
  have h':H' a=some (.frz od (.dK vs)):=p.keep a _ upd_same sa
  have nown:¬ Own sl' σ a:=fun w=>na (p.sub a w)
  have nbor:∀ (j:Nat) (o:OO),j≠i->sl'[j]?=some (some (.bor o))->σ[j]?≠some (some (.ref a)):=fun j o ne q1 q2=>by
    obtain ⟨o',q3⟩:=p.bsub j o q1
    rcases get_set q3 with ⟨y,_⟩ | ⟨_,y⟩
    · exact ne y
    · exact rep.bor j o' a y q2 oa
  refine ⟨h',hq v _ G' dv (sl'.set i (some (.own (.dk kvs)))) ?_ z2⟩
  have ownset:∀ b,Own (sl'.set i (some (.own (.dk kvs)))) σ b->b=a\/Own sl' σ b:=fun b ⟨j,o,q1,q2⟩=>by
    rcases get_set q1 with ⟨rfl,_⟩ | ⟨_,y⟩
    · rw [e1] at q2;cases q2;exact .inl rfl
    · exact .inr ⟨j,o,y,q2⟩
  have vne:∀ (o:OO) (b:Addr),dv=.own o->v=.ref b->b≠a:=fun o b q1 q2 y=>by
    subst y
    rcases p.new b o q1 q2 with y | y
    · rw [upd_same] at y;cases y
    · exact na y
  refine { ex:=p.ex,rep:=⟨⟨fun b o q1=>?_,fun b k q1=>?_,p.rep.h.ok,aeZ p.rep.h.tp (by intro _ z;cases z)⟩,by rw [List.length_set];exact p.rep.len,fun j d ej=>?_,fun j k o1 o2 b q1 q2 q3 q4=>?_,fun j o1 b q1 q2 w=>?_,fun j o1 w=>?_⟩,keep:=fun b o q1 sb=>?_,frm:=fun b n1 g1 sb w=>?_,sub:=fun b w=>?_,bsub:=fun j o w=>?_,val:=?_,new:=fun b o q1 q2=>?_,sepv:=fun b o q1 q2 w=>?_,nbs:=fun b o j o' q1 q2 q3 q4=>?_ }
  · rw [upd_ne (fun y=>by rw [y,g'] at q1;cases q1)];exact p.rep.h.ex b o q1
  · exact (p.rep.h.vol b k q1).keep (Ex.refl _) (p.rep.h.vol b k q1).g (upd_ne fun y=>sa (y ▸ ⟨k,q1⟩))
  · rcases get_set ej with ⟨rfl,y⟩ | ⟨ne,y⟩
    · cases y;exact ⟨_,e1,a,rfl,g',sa,vs,upd_same,fa.mono p.ex⟩
    · obtain ⟨v',f1,f2⟩:=p.rep.slots j d y
      refine ⟨v',f1,?_⟩
      cases d with
      | d x=>exact f2
      | src=>exact f2
      | own o=>
        obtain ⟨b,rfl,g1,s1,k⟩:=f2
        have ab:b≠a:=fun q=>nown (q ▸ ⟨j,o,y,f1⟩)
        exact ⟨b,rfl,g1,s1,k.keep (Ex.refl _) (upd_ne ab)⟩
      | bor o=>
        obtain ⟨b,rfl,s1,k⟩:=f2
        have ab:b≠a:=fun q=>nbor j o ne y (q ▸ f1)
        exact ⟨b,rfl,s1,k.keep (Ex.refl _) (upd_ne ab)⟩
      | see o=>exact absurd y (p.rep.nse j o)
      | mu y D gs=>exact SlOk.muU f2 (Ex.refl _) sa
      | gh _ _=>exact SlOk.ghU f2 (Ex.refl _) sa
  · rcases get_set q1 with ⟨rfl,y⟩ | ⟨n1,y1⟩
    · rcases get_set q2 with ⟨rfl,_⟩ | ⟨n2,y2⟩
      · rfl
      · rw [e1] at q3;cases q3;exact absurd ⟨k,o2,y2,q4⟩ nown
    · rcases get_set q2 with ⟨rfl,_⟩ | ⟨n2,y2⟩
      · rw [e1] at q4;cases q4;exact absurd ⟨j,o1,y1,q3⟩ nown
      · exact p.rep.sep j k o1 o2 b y1 y2 q3 q4
  · rcases get_set q1 with ⟨_,y⟩ | ⟨ne,y⟩
    · cases y
    · rcases ownset b w with rfl | w
      · exact nbor j o1 ne y q2
      · exact p.rep.bor j o1 b y q2 w
  · rcases get_set w with ⟨_,y⟩ | ⟨ne,y⟩
    · cases y
    · exact p.rep.nse j o1 y
  · by_cases y:b=a
    · subst y;rw [ha] at q1;cases q1;exact upd_same
    · rw [upd_ne y];exact p.keep b o (by rw [up_a b y];exact q1) sb
  · have y:b≠a:=fun y=>w (y ▸ oa)
    exact p.frm b (by rw [up_a b y];exact n1) g1 sb fun k=>w (afJ k).1
  · rcases ownset b w with rfl | w
    · exact oa
    · exact (afJ (p.sub b w)).1
  · rcases get_set w with ⟨_,y⟩ | ⟨ne,y⟩
    · cases y
    · obtain ⟨o',q3⟩:=p.bsub j o y
      rcases get_set q3 with ⟨y,_⟩ | ⟨_,y⟩
      · exact absurd y ne
      · exact ⟨o',y⟩
  · have w:=p.val
    cases dv with
    | d x=>exact w
    | src=>exact w
    | own o=>
      obtain ⟨b,rfl,g1,s1,k⟩:=w
      exact ⟨b,rfl,g1,s1,k.keep (Ex.refl _) (upd_ne (vne o b rfl rfl))⟩
    | bor o=>exact z1.elim
    | see o=>exact z1.elim
    | mu _ _ _=>exact w.elim
    | gh _ _=>exact w.elim
  · rcases p.new b o q1 q2 with y | y
    · refine .inl ?_
      by_cases q:b=a
      · exact absurd q (vne o b q1 q2)
      · rw [<- up_a b q];exact y
    · exact .inr (afJ y).1
  · rcases ownset b w with y | w
    · rcases q1 with q1 | q1
      · exact vne o b q1 q2 y
      · rw [q1] at z1;exact z1
    · exact p.sepv b o q1 q2 w
  · rcases get_set q3 with ⟨_,y⟩ | ⟨ne,y⟩
    · cases y
    · exact p.nbs b o j o' q1 q2 y q4
end
section
variable {X:Cx} {k:Nat} {f C:Addr} {fd:FuncData} {ps:List Str} {sp:SpD}
def rInI (K:PySem.W.Frag) (C:Addr) (sp:SpD) (n:Bool):R2:=fun x y H Q=>∃ a dx fs,y=.ref a/\H a=some (.ins C dx fs)/\upSp K sp [y,x] H (fun v H'=>∃ b,v=.bl b/\Q (.bl (if n then !b else b)) H') fun _ _ _=>False
theorem akn (hm:Meth X.K C "__contains__" f) (F:FnG X.prog X.w X.K X.mg X.base k f fd ps sp) (hr:Room (k + 1) X.A) (hg:X.A.guards=some []) (hb:Binds X.K fd ps []):OpR X (compareOp .NotIn) (rInI X.K C sp true):=by
  intro pins s σ H x y v u Q I rx ry h
  obtain ⟨a,dx,fs,rfl,e,q⟩:=h
  cases ry
  obtain ⟨mA,J,_⟩:=ins_get I.hok e
  obtain ⟨od,J,_⟩:=J.look
  obtain ⟨m,hF⟩:=I.fr
  refine PySem.W.notIn_K (h₀:=X.base) hF I.ok.mod.kin J hm.at_ hm.fn ?_
  refine wpAny_mono (amX (A:=X.A) F (hr.mono (by omega)) hg rfl hb I (vs:=[.ref a,x]) (.cons rfl (.cons rx .nil)) q) (fun v s' hv=>?_) fun _ _ x=>x
  obtain ⟨z,H',I',rz,b,rfl,hq⟩:=hv
  obtain rfl:v=.bool b:=rz
  exact wpAny_truthy_bool ⟨.bl (!b),H',I',rfl,hq⟩
@[irreducible] def inIR (C:Addr) (sp:SpD) (n:Bool) (x y:DV) (Q:DV->Prop):Prop:=match x,y with
  | .d e,.d (.ins D fs)=>D=C/\sp [.d (.ins D fs),.d e] (fun v=>match v with
    | .d (.bl b)=>Q (.d (.bl (if n then !b else b)))
    | _=>False) fun _ _=>False
  | _,_=>False
theorem amP {K:PySem.W.Frag} {n:Bool}:OpSem K (rInI K C sp n) (inIR C sp n):=by
  intro G so H x y dx dy Q R h wx wy q hk
  unfold inIR at q
  split at q
  · rename_i e D fs
    obtain ⟨rfl,q⟩:=q
    obtain ⟨a,dd,vs,rfl,ea,_⟩:=wy.inst h rfl
    refine ⟨a,dd,vs,rfl,ea,G,so,_,_,_,h,.cons wy (fun _ e=>(nomatch e)) (.cons wx (fun _ e=>(nomatch e)) .nil),q,fun v H' G' dv p z=>?_,fun _ _ _ _ _ _ _ z=>z⟩
    split at z
    · rename_i b
      have:v=.bl b:=by
        have:=p.val
        cases this;rfl
      subst this
      exact ⟨b,rfl,hk _ H' G' (.d (.bl (if n then !b else b))) ⟨p.ex,p.hrep,p.keep,p.frm,.bl _,fun _ _ e=>(nomatch e),fun _ e=>(nomatch e)⟩ z⟩
    · exact z.elim
  · exact q.elim
theorem l_inI {n:Bool} {fs:List (Str × D)} {e:D} {Q:DV->Prop} (h:sp [.d (.ins C fs),.d e] (fun v=>match v with
    | .d (.bl b)=>Q (.d (.bl (if n then !b else b)))
    | _=>False) fun _ _=>False):inIR C sp n (.d e) (.d (.ins C fs)) Q:=by
  unfold inIR
  exact ⟨rfl,h⟩
end
def insD (ds:List D) (k:Nat) (d:D):List D:=ds.take k++[d]++ds.drop k
def dInsert (tk te:TD) (i:Nat):TDS:=fun E sl=>(∃ ds,sl[i]?=some (some (.own (.lst ds))))/\tk sl (fun x s1=>te s1 (fun y s2=>match s2[i]?,pubV x,pubV y with
  | some (some (.own (.lst ds))),.d (.int k),.d d=>ds.length < szl/\0<=k/\k < 2 ^ 63/\E.nx (s2.set i (some (.own (.lst (insD ds k.toNat d)))))
  | _,_,_=>False) E.xc) E.xc
section
variable {X:Cx} {W:WX} {o key value:Expr} {tk te:TD} {pos pos':Pos} {i:Nat}
theorem ak4 (ho:PE X o (tVar i)) (hk:DE X W key tk) (hv:DE X W value te) (hbase:attributeBase o "insert" X.env (eval o X.env)=eval o X.env:=by rfl)
    (hfew:((backTo pos (starEach [key,value] X.env)).all (fun x=>!x.1) && (backToKw pos (keywordEach [] X.env)).all (fun x=>x.1.isSome)
      && decide ([key,value].length + ([]:List Keyword).length + (if ([]:List Keyword).isEmpty then 0 else 1) < 30))=true:=by rfl)
    (hline:(pos'.endLine == pos.line)=true:=by rfl) (hs:starEach [key,value] X.env=(false,eval key X.env)::starEach [value] X.env:=by rfl) (hs2:starEach [value] X.env=(false,eval value X.env)::starEach [] X.env:=by rfl) (hplain:(backTo pos (starEach [value] X.env)).any (·.1)=false:=by rfl) {spos:Pos}
    (hsw:swapsWith (.Call (.Attribute o "insert" pos') [key,value] [] pos) none spos.line X.env=pure false:=by rfl) :
    DS X W (.Expr (.Call (.Attribute o "insert" pos') [key,value] [] pos) spos) (dInsert tk te i):=by
  refine adu (ps_expr (pe_bm PySem.F.plainAttrs_list PySem.F.slot_list_insert PySem.F.type_list_insert mt_insert ho (pa_cons hk (pa_cons hv pa_nil hs2) hs) hbase hfew hline hs hplain) hsw) fun D σ H ⟨G,so,sl,E,rep,q,ok⟩=>?_
  obtain ⟨⟨ds0,e0⟩,q⟩:=q
  obtain ⟨v0,f0,a,rfl,ga,sa,vs0,h0,d0⟩:=rep.slots i _ e0
  refine ⟨.ref a,f0,.inl ⟨rfl,_,SqL.of h0⟩,?_⟩
  refine ⟨G,so,sl,_,E.xc,rep,q,fun x H1 G1 dx s1 p1 z=>?_,ok.xc.ex⟩
  obtain ⟨G1',p1'⟩:=p1.pub
  refine ⟨G1',so,s1,_,E.xc,p1'.rep,z,fun y H2 G2 dy s2 p2 z2=>?_,(ok.step p1'.toPost.s).xc.ex⟩
  obtain ⟨G2',p2'⟩:=p2.pub
  split at z2
  · rename_i ds k d e1 e2 e3
    obtain ⟨l,k0,k1,z2⟩:=z2
    obtain ⟨v,f1,b,rfl,gb,sb,vs,h1,h2⟩:=p2'.rep.slots i _ e1
    rw [f0] at f1
    cases f1
    have wy:DOk X.K G2' y d:=by have:=p2'.val;rw [e3] at this;exact this
    have wx:DOk X.K G2' x (.int k):=by have:=p1'.over p2'.toPost;rw [e2] at this;exact this
    obtain rfl:x=.int k:=by cases wx;rfl
    refine ⟨a,vs,k,y,rfl,rfl,h1,by rw [h2.length,<- acr];exact l,k0,k1,?_⟩
    exact ok.nx σ _ G2' _ ((p1'.toPost.trans p2'.toPost).s.trans (PostS.mut (o':=.lst (insD ds k.toNat d)) p2'.rep e1 f0 ⟨_,upd_same,((h2.take k.toNat).append (.cons wy .nil)).append (h2.drop k.toNat)⟩)) z2
  · exact z2.elim
theorem anx {E:EndsD} {sl:DSt} (ds:List D) (R:Nat->Prop) (d:D) (h:∀ Q:DV->DSt->Prop,(∀ k:Nat,R k->Q (.d (.int k)) sl)->tk sl Q E.xc) (h2:∀ Q:DV->DSt->Prop,Q (.d d) sl->te sl Q E.xc) (q:∀ k,R k->E.nx (sl.set i (some (.own (.lst (insD ds k d)))))) (hR:∀ k,R k->k < 2 ^ 60) (hl:ds.length < szl) (e:sl[i]?=some (some (.own (.lst ds))):=by rfl):dInsert tk te i E sl:=by
  refine ⟨⟨ds,e⟩,h _ fun k hk=>h2 _ ?_⟩
  show (match sl[i]?,DV.d (.int k),DV.d d with
    | some (some (.own (.lst ds))),.d (.int k),.d d=>ds.length < szl/\0<=k/\k < 2 ^ 63/\E.nx (sl.set i (some (.own (.lst (insD ds k.toNat d)))))
    | _,_,_=>False)
  rw [e]
  exact ⟨hl,by omega,by have:=hR k hk;omega,by rw [Int.toNat_natCast];exact q k hk⟩
@[irreducible] def idxR (x y:DV) (Q:DV->Prop):Prop:=match x,y with
  | .d (.tup ds),.d (.str z)=>(match strsD ds with
    | some ss=>∃ j:Nat,ss[j]?=some z/\(∀ m,m < j->ss[m]?≠some z)/\Q (.d (.int j))
    | none=>False)
  | _,_=>False
def GlobT (K:PySem.W.Frag) (mg:Str->Option Value) (x:Str) (ds:List D):Prop:=∃ b o,mg x=some (.ref b)/\K.lookup b=some o/\o.cls=.type "tuple"/\o.dict=none/\∀ G,DOk K G (.ref b) (.tup ds)
def gtB (K:PySem.W.Frag) (x:Str) (ds:List D):Bool:=match PySem.W.nsIn K mainGlobals x with
  | some (some (.ref b))=>(match K.lookup b with
    | some ⟨.type c,none,_,_⟩=>decide (c="tuple") && datB K (.tup ds) (.ref b)
    | _=>false)
  | _=>false
theorem aoD {K:PySem.W.Frag} {h:Heap} {mg:Str->Option Value} (X:K.In h) (G:h.Ns mainGlobals mg) {x:Str} {ds:List D} (c:gtB K x ds=true):GlobT K mg x ds:=by
  unfold gtB at c
  split at c
  · rename_i b e
    split at c
    · rename_i cc da sl q
      obtain ⟨h1,h2⟩:=He.ba c
      obtain ⟨v,r,w⟩:=aiC _ _ h2
      have ev:v=.ref b:=by
        have w1:=w (fun _=>none)
        cases w1
        injection r with r
        rw [r]
      subst ev
      exact ⟨b,_,PySem.W.mg_of X G e,q,congrArg Value.type (of_decide_eq_true h1),rfl,w⟩
    · cases c
  · cases c
theorem gt_ok {l:LX} {fa:List He.Fa} {fn:List He.DefD} {h:Heap} {K:PySem.W.Frag} {mg:Str->Option Value} {x:Str} {ds:List D} (S:SaysX l fa fn h K) (X:K.In h) (G:h.Ns mainGlobals mg) {i:Nat} (e:l.xs[i]?=some (fun K=>gtB K x ds)):GlobT K mg x ds:=
  aoD X G (List.all_eq_true.mp (He.ba (He.ba S.c).2).2 _ (List.mem_of_getElem? e))
theorem al3 {ds:List D} {x:Str} {xp:Pos} (hg:Gl X x) (T:GlobT X.K X.mg x ds) (he:DE X W value te) (hs:starEach [value] X.env=(false,eval value X.env)::starEach [] X.env:=by rfl) (hbase:attributeBase (.Name x xp) "index" X.env (eval (.Name x xp) X.env)=eval (.Name x xp) X.env:=by rfl)
    (hfew:((backTo pos (starEach [value] X.env)).all (fun x=>!x.1) && (backToKw pos (keywordEach [] X.env)).all (fun x=>x.1.isSome)
      && decide ([value].length + ([]:List Keyword).length + (if ([]:List Keyword).isEmpty then 0 else 1) < 30))=true:=by rfl)
    (hline:(pos'.endLine == pos.line)=true:=by rfl) (hplain:(backTo pos (starEach [] X.env)).any (·.1)=false:=by rfl) (hdb:(x == ("__debug__":Str))=false:=by decide):DE X W (.Call (.Attribute (.Name x xp) "index" pos') [value] [] pos) (dUn (idxR (.d (.tup ds))) te):=by
  obtain ⟨b,o,m,lk,c1,c2,w⟩:=T
  refine aa3 (pe_bm PySem.F.plainAttrs_tuple PySem.F.slot_tuple_index PySem.F.type_tuple_index mt_tup_index (pe_glob (v:=.ref b) hg m rfl hdb) (pa_cons he pa_nil hs) hbase hfew hline hs hplain) fun σ H R ⟨G,so,sl,Q,E,rep,q,hq,hx⟩=>?_
  refine ⟨.inr (.inl ⟨rfl,o,lk,c1,c2⟩),?_⟩
  refine ⟨G,so,sl,_,E,rep,q,fun y H2 G2 dy s2 p2 h2=>?_,hx⟩
  unfold idxR at h2
  split at h2
  · rename_i es z e1
    cases e1
    split at h2
    · rename_i ss e
      obtain ⟨j,j1,j2,h2⟩:=h2
      obtain ⟨b',vs',eb,g2,a2⟩:=VOk.tup p2.rep.h (show VOk X.K G2 so H2 (.ref b) (.d (.tup ds)) from w G2)
      cases eb
      have w2:DOk X.K G2 y (.str z):=p2.val
      cases w2
      exact ⟨b,ss,z,j,rfl,rfl,by rw [<- afB a2 e];exact g2,j1,j2,hq _ H2 G2 _ s2 (p2.toPost.thenV (.dat p2.rep.h (.int _))) h2⟩
    · exact h2.elim
  · exact h2.elim
theorem l_idx {ds:List D} {ss:List Str} {z:Str} {j:Nat} {Q:DV->Prop} (h:strsD ds=some ss) (h1:ss[j]?=some z) (h2:∀ m,m < j->ss[m]?≠some z) (q:Q (.d (.int j))):idxR (.d (.tup ds)) (.d (.str z)) Q:=by
  unfold idxR
  dsimp only
  rw [h];exact ⟨j,h1,h2,q⟩
def dListRg (te:TD):TD:=fun sl Q E=>te sl (fun x s1=>match x with
  | .d (.int n)=>0<=n/\n<=16777216/\Q (.own (.lst (intsFrom 0 n.toNat))) s1
  | _=>False) E
theorem an9 {K:PySem.W.Frag} {G:Hp} (n:Nat) (lo:Int):DAll K G ((List.range n).map fun (i:Nat)=>V.int (lo + (i:Int))) (intsFrom lo n):=by
  induction n generalizing lo with
  | zero=>exact .nil
  | succ n ih=>
    rw [List.range_succ_eq_map,List.map_cons,List.map_map]
    have e:((fun (i:Nat)=>V.int (lo + (i:Int))) ∘ Nat.succ)=fun (i:Nat)=>V.int (lo + 1 + (i:Int)):=by
      funext i
      show V.int (lo + ((i + 1:Nat):Int))=V.int (lo + 1 + (i:Int))
      congr 1;omega
    rw [e]
    have e0:lo + ((0:Nat):Int)=lo:=by omega
    rw [e0]
    exact .cons (.int lo) (ih (lo + 1))
theorem ahY {e:Expr} {te:TD} {p q' r':Pos} (hc:X.calm=true) (hg:Gl X "list") (hm:X.mg "list"=none) (hg2:Gl X "range") (hm2:X.mg "range"=none) (he:DE X W e te) (na:starEach [e] X.env=(false,eval e X.env)::starEach [] X.env:=by rfl)
    (nb:starEach [.Call (.Name "range" q') [e] [] r'] X.env=(false,eval (.Call (.Name "range" q') [e] [] r') X.env)::starEach [] X.env:=by rfl):DE X W (.Call (.Name "list" p) [.Call (.Name "range" q') [e] [] r'] [] pos) (dListRg te):=by
  refine aa3 (pe_listRg hc hg hm (prg_1 hg2 hm2 he na) nb) fun σ H R ⟨G,so,sl,Q,E,rep,q,hq,hx⟩=>?_
  refine ⟨G,so,sl,_,E,rep,q,fun x H1 G1 dx s1 p1 h1=>?_,hx⟩
  split at h1
  · rename_i n
    obtain ⟨h0,h2,h1⟩:=h1
    have w:DOk X.K G1 x (.int n):=p1.val
    cases w
    refine ⟨n,rfl,RgOk.of_le (by omega) h2 (by omega) h0,fun l nl=>?_⟩
    have e2:rgV 0 n=(List.range n.toNat).map fun (i:Nat)=>V.int ((0:Int) + (i:Int)):=by
      unfold rgV;rw [Int.sub_zero]
    rw [e2]
    exact hq _ _ G1 _ s1 (p1.toPost.thenV (.list p1.rep.h nl (an9 _ _))) h1
  · exact h1.elim
theorem ajK {X:Cx} (hc:X.calm=true):CallR X (.type "list") (fun xs H Q=>∃ z:Str,xs=[.str z]/\z.length<=sizeLine/\∀ l,H l=none->Q (.ref l) (upd H l (.lst (z.cps.toList.map fun c=>V.str ⟨#[c]⟩)))):=by
  intro pins s σ H xs us Q I r h
  obtain ⟨z,rfl,hz,q⟩:=h
  obtain ⟨u,rfl,t,rfl⟩:=vals1 r
  refine call_list_str (I.ok.hd hc) z t (fun h' tk acc c' hk e' hi=>?_) hz
  refine ⟨.ref s.heap.objs.size,upd H s.heap.objs.size (.lst (z.cps.toList.map fun c=>V.str ⟨#[c]⟩)),I.laid hk (Nat.le_refl _) (show ObjOk X.prog X.w _ _ _ (.lst _) from ⟨?_,acc.toList,c',?_,?_⟩),rfl,q _ (I.hok.fresh (Nat.le_refl _))⟩
  · rw [List.length_map];exact hz
  · refine vals_of_at ?_ fun j x u e1 e2=>?_
    · rw [List.length_map,Array.length_toList,Array.length_toList];exact hi.1.symm
    · rw [Array.getElem?_toList] at e2
      obtain ⟨c,tt,f1,rfl⟩:=hi.2 j u e2
      rw [List.getElem?_map,Array.getElem?_toList,f1] at e1
      cases e1
      exact ⟨tt,rfl⟩
  · rw [Array.toArray_toList];exact e'
end
@[irreducible] def listSR:List DV->(DV->Prop)->Prop
  | [.d (.str z)],Q=>z.length<=szl/\Q (.own (.lst (signs z)))
  | _,_=>False
theorem aho {K:PySem.W.Frag} {G:Hp}:∀ cs:List Nat,DAll K G (cs.map fun c=>V.str ⟨#[c]⟩) (cs.map fun c=>D.str ⟨#[c]⟩)
  | []=>.nil
  | c::r=>.cons (.str _) (aho r)
theorem ajY {K:PySem.W.Frag}:CallSem K (fun xs H Q=>∃ z:Str,xs=[.str z]/\z.length<=sizeLine/\∀ l,H l=none->Q (.ref l) (upd H l (.lst (z.cps.toList.map fun c=>V.str ⟨#[c]⟩)))) listSR:=by
  intro G so H xs dxs Q R h w q k
  unfold listSR at q
  split at q
  · obtain ⟨v,rfl,w1,_⟩:=w.v1
    cases w1
    exact ⟨_,rfl,by rw [<- acr];exact q.1,fun l n=>k _ _ G _ (.list h n (aho _)) q.2⟩
  · exact q.elim
theorem anf {z:Str} {Q:DV->Prop} (h:z.length<=szl) (q:Q (.own (.lst (signs z)))):listSR [.d (.str z)] Q:=by
  unfold listSR;exact ⟨h,q⟩
end DL
set_option maxHeartbeats 4000000
namespace K16
open PySem PySem.Spec PyProof.Rows L2 DL
def topS (i:Nat):Stmt:=PySem.Challenge.pw_missingmiles_k16_parts_of_worlds.main.body.getD i (.Pass ⟨0,0,0,0⟩)
abbrev acw:Stmt:=topS 17
abbrev aaQ:Nat:=0
abbrev ab8:Stmt:=topS 18
abbrev abj:Nat:=1
abbrev acx:Stmt:=topS 19
abbrev abF:Nat:=2
abbrev ab7:Stmt:=topS 20
abbrev abP:Nat:=3
abbrev adm:Stmt:=topS 21
abbrev ac5:Nat:=4
abbrev acv:Stmt:=topS 22
abbrev abE:Nat:=5
abbrev afH:Stmt:=topS 23
abbrev ae3:Nat:=6
abbrev aef:Stmt:=topS 24
abbrev adM:Nat:=7
abbrev acL:Stmt:=topS 29
abbrev acP:Nat:=8
abbrev acy:Stmt:=topS 30
abbrev ach:Nat:=9
abbrev abK:Stmt:=topS 34
abbrev abQ:Nat:=10
abbrev aaX:Stmt:=topS 35
abbrev abc:Nat:=11
abbrev aaN:Stmt:=topS 36
abbrev aaO:Nat:=12
abbrev aaG:Stmt:=topS 37
abbrev aaH:Nat:=13
abbrev aaS:Stmt:=inClass (topS 38) 1
abbrev aal:Nat:=14
abbrev abO:Stmt:=inClass (topS 38) 2
abbrev aaZ:Nat:=15
abbrev abi:Stmt:=inClass (topS 38) 3
abbrev aaA:Nat:=16
abbrev abB:Stmt:=inClass (topS 38) 4
abbrev abh:Nat:=17
abbrev aau:Stmt:=inClass (topS 38) 13
abbrev aap:Nat:=18
abbrev abA:Stmt:=inClass (topS 38) 5
abbrev abg:Nat:=19
abbrev aa2:Stmt:=inClass (topS 38) 7
abbrev aaP:Nat:=20
abbrev aa8:Stmt:=inClass (topS 38) 6
abbrev abf:Nat:=21
abbrev aaz:Stmt:=inClass (topS 38) 12
abbrev aat:Nat:=22
abbrev aa9:Stmt:=inClass (topS 38) 10
abbrev aci:Nat:=23
abbrev abw:Stmt:=topS 40
abbrev abZ:Nat:=24
abbrev abz:Stmt:=topS 41
abbrev aas:Nat:=25
abbrev ac0:Stmt:=topS 42
abbrev ab4:Nat:=26
abbrev abL:Stmt:=topS 43
abbrev aaI:Nat:=27
abbrev ab9:Stmt:=topS 44
abbrev abS:Nat:=28
abbrev aby:Stmt:=topS 45
abbrev ab0:Nat:=29
abbrev s__law_ask:Stmt:=topS 46
abbrev abn:Nat:=30
abbrev acz:Stmt:=topS 47
abbrev abG:Nat:=31
abbrev aca:Stmt:=topS 48
abbrev abT:Nat:=32
abbrev acd:Stmt:=topS 49
abbrev abW:Nat:=33
abbrev abN:Stmt:=topS 50
abbrev abt:Nat:=34
abbrev aa6:Stmt:=topS 51
abbrev abr:Nat:=35
abbrev abx:Stmt:=topS 52
abbrev abd:Nat:=36
abbrev aa7:Stmt:=topS 53
abbrev abe:Nat:=37
abbrev abo:Stmt:=topS 54
abbrev abq:Nat:=38
abbrev aaq:Stmt:=topS 57
abbrev aav:Nat:=39
abbrev abM:Stmt:=topS 55
abbrev abV:Nat:=40
abbrev abv:Stmt:=topS 56
abbrev abR:Nat:=41
abbrev acb:Stmt:=topS 58
abbrev abU:Nat:=42
abbrev adG:Stmt:=topS 59
abbrev ag3:Nat:=43
abbrev aaC:Stmt:=inClass (topS 5) 0
abbrev acl:List (Str × (Str ⊕ Str)):=[("code",.inl "InvalidRatio"),("given",.inr "given")]
abbrev acX (given:D):List (Str × D):=[("given",given),("code",.str "InvalidRatio")]
abbrev aaB:Stmt:=inClass (topS 9) 0
abbrev adB:List (Str × (Str ⊕ Str)):=[("code",.inl "InvalidTable"),("layer",.inr "layer")]
abbrev aaV:Stmt:=inClass (topS 10) 0
abbrev aen:List (Str × (Str ⊕ Str)):=[("code",.inl "InvalidWay"),("layer",.inr "layer"),("start",.inr "start"),("goal",.inr "goal")]
abbrev abY:Stmt:=inClass (topS 12) 0
abbrev adU:List (Str × (Str ⊕ Str)):=[("code",.inl "TooMany"),("subject",.inr "subject"),("most",.inr "most")]
abbrev aeP (subject:D) (most:D):List (Str × D):=[("most",most),("subject",subject),("code",.str "TooMany")]
abbrev aaL:Stmt:=inClass (topS 7) 0
abbrev acE:List (Str × (Str ⊕ Str)):=[("code",.inl "InvalidName"),("given",.inr "given")]
abbrev ac8 (given:D):List (Str × D):=[("given",given),("code",.str "InvalidName")]
abbrev aaD:Stmt:=inClass (topS 11) 0
abbrev acm:List (Str × (Str ⊕ Str)):=[("code",.inl "InvalidPlace"),("given",.inr "given")]
abbrev abJ (given:D):List (Str × D):=[("given",given),("code",.str "InvalidPlace")]
abbrev aaK:Stmt:=inClass (topS 13) 0
abbrev acD:List (Str × (Str ⊕ Str)):=[("code",.inl "UnknownName"),("name",.inr "name")]
abbrev ab3 (name:D):List (Str × D):=[("name",name),("code",.str "UnknownName")]
abbrev aaE:Stmt:=inClass (topS 8) 0
abbrev acn:List (Str × (Str ⊕ Str)):=[("code",.inl "InvalidLayer"),("given",.inr "given")]
abbrev aaM (given:D):List (Str × D):=[("given",given),("code",.str "InvalidLayer")]
abbrev aax:Stmt:=inClass (topS 6) 0
abbrev ab5:List (Str × (Str ⊕ Str)):=[("code",.inl "InvalidNumber"),("given",.inr "given")]
abbrev acS (given:D):List (Str × D):=[("given",given),("code",.str "InvalidNumber")]
theorem aft (given:D):xdD ["given"] acl [given]=acX given:=by first | rfl | kernel_rfl
theorem afr {E:Value->List (Str × D)->Prop} {v:Value} {given:D} (h:E v (acX given)):E v (xdD ["given"] acl [given]):=by rw [aft];exact h
theorem ajp (subject:D) (most:D):xdD ["subject","most"] adU [subject,most]=aeP subject most:=by first | rfl | kernel_rfl
theorem ajo {E:Value->List (Str × D)->Prop} {v:Value} {subject:D} {most:D} (h:E v (aeP subject most)):E v (xdD ["subject","most"] adU [subject,most]):=by rw [ajp];exact h
theorem aga (given:D):xdD ["given"] acE [given]=ac8 given:=by first | rfl | kernel_rfl
theorem af8 {E:Value->List (Str × D)->Prop} {v:Value} {given:D} (h:E v (ac8 given)):E v (xdD ["given"] acE [given]):=by rw [aga];exact h
theorem afu (given:D):xdD ["given"] acm [given]=abJ given:=by first | rfl | kernel_rfl
theorem ack {E:Value->List (Str × D)->Prop} {v:Value} {given:D} (h:E v (abJ given)):E v (xdD ["given"] acm [given]):=by rw [afu];exact h
theorem af9 (name:D):xdD ["name"] acD [name]=ab3 name:=by first | rfl | kernel_rfl
theorem af7 {E:Value->List (Str × D)->Prop} {v:Value} {name:D} (h:E v (ab3 name)):E v (xdD ["name"] acD [name]):=by rw [af9];exact h
theorem afv (given:D):xdD ["given"] acn [given]=aaM given:=by first | rfl | kernel_rfl
theorem afs {E:Value->List (Str × D)->Prop} {v:Value} {given:D} (h:E v (aaM given)):E v (xdD ["given"] acn [given]):=by rw [afv];exact h
theorem ae9 (given:D):xdD ["given"] ab5 [given]=acS given:=by first | rfl | kernel_rfl
theorem ae8 {E:Value->List (Str × D)->Prop} {v:Value} {given:D} (h:E v (acS given)):E v (xdD ["given"] ab5 [given]):=by rw [ae9];exact h
section
variable {P:Program} {w:World} {K:PySem.W.Frag} {mg:Str->Option Value} {base:Heap} {a:Nat->Addr} {d:Nat->FuncData}
def df0:He.DefD:=⟨("is_whole",none),"is_whole","is_whole",defArgs acw,defBody acw,defScope acw,[],[]⟩
def df1:He.DefD:=⟨("is_number",none),"is_number","is_number",defArgs ab8,defBody ab8,defScope ab8,[],[]⟩
def df2:He.DefD:=⟨("is_ratio",none),"is_ratio","is_ratio",defArgs acx,defBody acx,defScope acx,[],[]⟩
def df3:He.DefD:=⟨("is_valued",none),"is_valued","is_valued",defArgs ab7,defBody ab7,defScope ab7,[],[]⟩
def df4:He.DefD:=⟨("lowest",none),"lowest","lowest",defArgs adm,defBody adm,defScope adm,[],[]⟩
def df5:He.DefD:=⟨("ratio_of",none),"ratio_of","ratio_of",defArgs acv,defBody acv,defScope acv,[],[]⟩
def df6:He.DefD:=⟨("plus",none),"plus","plus",defArgs afH,defBody afH,defScope afH,[],[]⟩
def df7:He.DefD:=⟨("below",none),"below","below",defArgs aef,defBody aef,defScope aef,[],[]⟩
def df8:He.DefD:=⟨("is_name",none),"is_name","is_name",defArgs acL,defBody acL,defScope acL,[],[]⟩
def df9:He.DefD:=⟨("is_layer",none),"is_layer","is_layer",defArgs acy,defBody acy,defScope acy,[.int 2],[]⟩
def df10:He.DefD:=⟨("is_square",none),"is_square","is_square",defArgs abK,defBody abK,defScope abK,[],[]⟩
def df11:He.DefD:=⟨("first_fault",none),"first_fault","first_fault",defArgs aaX,defBody aaX,defScope aaX,[],[]⟩
def df12:He.DefD:=⟨("checked_table",none),"checked_table","checked_table",defArgs aaN,defBody aaN,defScope aaN,[],[]⟩
def df13:He.DefD:=⟨("checked_places",none),"checked_places","checked_places",defArgs aaG,defBody aaG,defScope aaG,[],[]⟩
def df14:He.DefD:=⟨("World",some "__init__"),"__init__","World.__init__",defArgs aaS,defBody aaS,defScope aaS,[],[("cart",.non)]⟩
def df15:He.DefD:=⟨("World",some "size"),"size","World.size",defArgs abO,defBody abO,defScope abO,[],[]⟩
def df16:He.DefD:=⟨("World",some "layers"),"layers","World.layers",defArgs abi,defBody abi,defScope abi,[],[]⟩
def df17:He.DefD:=⟨("World",some "names"),"names","World.names",defArgs abB,defBody abB,defScope abB,[],[]⟩
def df18:He.DefD:=⟨("World",some "__contains__"),"__contains__","World.__contains__",defArgs aau,defBody aau,defScope aau,[],[]⟩
def df19:He.DefD:=⟨("World",some "place"),"place","World.place",defArgs abA,defBody abA,defScope abA,[],[]⟩
def df20:He.DefD:=⟨("World",some "rows_of"),"rows_of","World.rows_of",defArgs aa2,defBody aa2,defScope aa2,[],[]⟩
def df21:He.DefD:=⟨("World",some "table"),"table","World.table",defArgs aa8,defBody aa8,defScope aa8,[.str "foot"],[]⟩
def df22:He.DefD:=⟨("World",some "with_tables"),"with_tables","World.with_tables",defArgs aaz,defBody aaz,defScope aaz,[],[]⟩
def df23:He.DefD:=⟨("World",some "part"),"part","World.part",defArgs aa9,defBody aa9,defScope aa9,[],[]⟩
def df24:He.DefD:=⟨("_law_source",none),"_law_source","_law_source",defArgs abw,defBody abw,defScope abw,[],[]⟩
def df25:He.DefD:=⟨("_law_draw",none),"_law_draw","_law_draw",defArgs abz,defBody abz,defScope abz,[],[]⟩
def df26:He.DefD:=⟨("_law_of",none),"_law_of","_law_of",defArgs ac0,defBody ac0,defScope ac0,[],[]⟩
def df27:He.DefD:=⟨("_law_mixed",none),"_law_mixed","_law_mixed",defArgs abL,defBody abL,defScope abL,[],[]⟩
def df28:He.DefD:=⟨("_law_same",none),"_law_same","_law_same",defArgs ab9,defBody ab9,defScope ab9,[],[]⟩
def df29:He.DefD:=⟨("_law_fields",none),"_law_fields","_law_fields",defArgs aby,defBody aby,defScope aby,[],[]⟩
def df30:He.DefD:=⟨("_law_ask",none),"_law_ask","_law_ask",defArgs s__law_ask,defBody s__law_ask,defScope s__law_ask,[],[]⟩
def df31:He.DefD:=⟨("_law_low",none),"_law_low","_law_low",defArgs acz,defBody acz,defScope acz,[],[]⟩
def df32:He.DefD:=⟨("_law_plus",none),"_law_plus","_law_plus",defArgs aca,defBody aca,defScope aca,[],[]⟩
def df33:He.DefD:=⟨("_law_less",none),"_law_less","_law_less",defArgs acd,defBody acd,defScope acd,[],[]⟩
def df34:He.DefD:=⟨("_law_least",none),"_law_least","_law_least",defArgs abN,defBody abN,defScope abN,[],[]⟩
def df35:He.DefD:=⟨("_law_names",none),"_law_names","_law_names",defArgs aa6,defBody aa6,defScope aa6,[],[]⟩
def df36:He.DefD:=⟨("_law_length",none),"_law_length","_law_length",defArgs abx,defBody abx,defScope abx,[],[]⟩
def df37:He.DefD:=⟨("_law_closed",none),"_law_closed","_law_closed",defArgs aa7,defBody aa7,defScope aa7,[],[]⟩
def df38:He.DefD:=⟨("_law_table",none),"_law_table","_law_table",defArgs abo,defBody abo,defScope abo,[],[]⟩
def df39:He.DefD:=⟨("_law_spread_plan",none),"_law_spread_plan","_law_spread_plan",defArgs aaq,defBody aaq,defScope aaq,[],[]⟩
def df40:He.DefD:=⟨("_law_made",none),"_law_made","_law_made",defArgs abM,defBody abM,defScope abM,[],[]⟩
def df41:He.DefD:=⟨("_law_told",none),"_law_told","_law_told",defArgs abv,defBody abv,defScope abv,[],[]⟩
def df42:He.DefD:=⟨("_law_part",none),"_law_part","_law_part",defArgs acb,defBody acb,defScope acb,[],[]⟩
def df43:He.DefD:=⟨("law",none),"law","law",defArgs adG,defBody adG,defScope adG,[],[]⟩
def fnL:List He.DefD:=[df0,df1,df2,df3,df4,df5,df6,df7,df8,df9,df10,df11,df12,df13,df14,df17,df18,df19,df20,df21,df22,df23,df24,df25,df26,df27,df28,df29,df30,df31,df32,df33,df34,df35,df36,df37,df38,df39,df40,df41,df42,df43]
def ps15:PSpec:=⟨"World","size",df15,false⟩
def ps16:PSpec:=⟨"World","layers",df16,false⟩
def faL:List He.Fa:=([.glo "is_whole",.glo "is_number",.glo "is_ratio",.glo "is_valued",.glo "lowest",.glo "ratio_of",.glo "plus",.glo "below",.glo "is_name",.glo "is_layer",.glo "is_square",.glo "first_fault",.glo "checked_table",.glo "checked_places",.mkr "World",.meth "World" "names",.meth "World" "__contains__",.meth "World" "place",.meth "World" "rows_of",.meth "World" "table",.meth "World" "with_tables",.meth "World" "part",.glo "_law_source",.glo "_law_draw",.glo "_law_of",.glo "_law_mixed",.glo "_law_same",.glo "_law_fields",.glo "_law_ask",.glo "_law_low"]:List He.Fa)++([.glo "_law_plus",.glo "_law_less",.glo "_law_least",.glo "_law_names",.glo "_law_length",.glo "_law_closed",.glo "_law_table",.glo "_law_spread_plan",.glo "_law_made",.glo "_law_told",.glo "_law_part",.glo "law",.glo "World",.cls "World",.noat "World" "own_tables",.noat "World" "own_names",.glo "InvalidRatio",.glo "InvalidTable",.glo "InvalidWay",.glo "TooMany",.glo "InvalidName",.glo "InvalidPlace",.glo "UnknownName",.glo "InvalidLayer",.glo "InvalidNumber",.glo "MilesError",.glo "Missing",.glo "NothingLeft",.free "abs",.free "all"]:List He.Fa)++([.free "any",.free "bool",.free "dict",.free "enumerate",.free "int",.free "isinstance",.free "len",.free "list",.free "range",.free "repr",.free "sorted",.free "str",.free "super",.free "tuple"]:List He.Fa)
def ady:XSpec:=⟨"InvalidRatio",0,["code","given"],defArgs aaC,defBody aaC,defScope aaC⟩
def adx:XSpec:=⟨"InvalidTable",0,["code","layer"],defArgs aaB,defBody aaB,defScope aaB⟩
def aem:XSpec:=⟨"InvalidWay",0,["code","layer","start","goal"],defArgs aaV,defBody aaV,defScope aaV⟩
def agx:XSpec:=⟨"TooMany",0,["code","subject","most"],defArgs abY,defBody abY,defScope abY⟩
def ad8:XSpec:=⟨"InvalidName",0,["code","given"],defArgs aaL,defBody aaL,defScope aaL⟩
def adz:XSpec:=⟨"InvalidPlace",0,["code","given"],defArgs aaD,defBody aaD,defScope aaD⟩
def ad7:XSpec:=⟨"UnknownName",1,["code","name"],defArgs aaK,defBody aaK,defScope aaK⟩
def adA:XSpec:=⟨"InvalidLayer",0,["code","given"],defArgs aaE,defBody aaE,defScope aaE⟩
def adt:XSpec:=⟨"InvalidNumber",0,["code","given"],defArgs aax,defBody aax,defScope aax⟩
def lyL:LZ:={ cs:=[("ZERO",.tup [.int 0,.int 1]),("LETTERS",.str "abcdefghijklmnopqrstuvwxyz"),("LAYERS",.tup [.str "foot",.str "cart"]),("MOST_NAMED",.int 5),("MOST_PLACES",.int 9)],bs:=[("gcd","math.gcd")],xs:=[fun K=>gtB K "LAYERS" ([.str "foot",.str "cart"])],file:=PySem.Challenge.rw_missingmiles_k16_parts_of_worlds.prog.main.file,ask:=true,ex:=[ady,adx,aem,agx,ad8,adz,ad7,adA,adt],ci:=[],pr:=[ps15,ps16] }
def newA (vis:Nat):List Addr->List Addr × Nat
  | []=>([],vis)
  | a::r=>match Nat.beq (Nat.land (Nat.shiftRight vis a) 1) 1 with
    | true=>newA vis r
    | false=>(a::(newA (Nat.lor vis (Nat.shiftLeft 1 a)) r).1,(newA (Nat.lor vis (Nat.shiftLeft 1 a)) r).2)
def lvA (g:Addr->Option Obj):Nat->List Addr->Nat->List Addr
  | 0,_,_=>[]
  | n + 1,fr,vis=>match newA vis (fr.flatMap fun a=>match g a with
      | some o=>He.refsD o
      | none=>[]) with
    | (nx,vis2)=>nx++lvA g n nx vis2
def asA (g:Addr->Option Obj) (n:Nat):List Addr:=(fun as=>as++cStatics::as.flatMap fun a=>match g a with
  | some ⟨_,_,.func fd,_⟩=>fd.closure.map (·.2)++He.refV fd.code
  | some ⟨.type c,_,.seq its _,_⟩=>if c == "tuple" then its.toList.flatMap He.refV else []
  | _=>[]) (mainGlobals::lvA g n [mainGlobals] (Nat.shiftLeft 1 mainGlobals))
def obsXA (n:Nat) (l:LX) (fa:List He.Fa) (fn:List He.DefD) (g:Addr->Option Obj):AlX:=(l.ok g (He.frT g (asA g n)),He.obsD fa fn (He.frT g (asA g n)))
theorem saysA_of {n:Nat} {l:LX} {fa:List He.Fa} {fn:List He.DefD} {h:Heap} (e:obsXA n l fa fn h.get?=valX fn):SaysX l fa fn h (He.frT h.get? (asA h.get? n)):=by
  have e1:l.ok h.get? (He.frT h.get? (asA h.get? n))=true:=congrArg (fun z:AlX=>z.1) e
  obtain ⟨h1,h2⟩:=He.ba e1
  have key:∀ q∈lamFns (He.frT h.get? (asA h.get? n)),PySem.W.codeHdIn (He.frT h.get? (asA h.get? n)) q.1 q.2.1=true/\(∃ o,h.get? q.2.1=some o/\He.emptyTab o=true)/\∀ q'∈lamFns (He.frT h.get? (asA h.get? n)),q.2.1=q'.2.1->q.2.2=q'.2.2:=fun q hq=>by
    obtain ⟨z1,z2⟩:=He.ba (List.all_eq_true.mp h2 q hq)
    obtain ⟨z3,z4⟩:=He.ba z2
    refine ⟨z1,?_,fun q' hq' e=>?_⟩
    · split at z3
      · rename_i o y
        exact ⟨o,y,z3⟩
      · cases z3
    · have y:=List.all_eq_true.mp z4 q' hq'
      rw [Bool.or_eq_true,bne_iff_ne,beq_iff_eq] at y
      exact y.resolve_left fun z=>z e
  refine ⟨h1,congrArg (fun z:AlX=>z.2) e,fun p hp=>(key p hp).1,fun p hp=>?_,fun p hp=>?_,fun q hq q' hq'=>(key q hq).2.2 q' hq'⟩
  · obtain ⟨_,⟨o,q,z⟩,_⟩:=key p hp
    exact He.frT_none q z
  · obtain ⟨_,⟨o,q,z⟩,_⟩:=key p hp
    rw [q,He.emptyTab_eq z]
def obsYA (n:Nat) (l:LY) (fa:List He.Fa) (fn:List He.DefD) (g:Addr->Option Obj):AlY:=(l.ok g (He.frT g (asA g n)),He.obsD fa fn (He.frT g (asA g n)),l.ex.map fun e=>exObs (He.frT g (asA g n)) (He.ga (He.frT g (asA g n)) e.name))
theorem saysYA_of {n:Nat} {l:LY} {fa:List He.Fa} {fn:List He.DefD} {h:Heap} (e:obsYA n l fa fn h.get?=valY l fn):SaysY l fa fn h (He.frT h.get? (asA h.get? n)):=by
  have e1:l.ok h.get? (He.frT h.get? (asA h.get? n))=true:=congrArg (fun z:AlY=>z.1) e
  have e2:He.obsD fa fn (He.frT h.get? (asA h.get? n))=He.valD fn:=congrArg (fun z:AlY=>z.2.1) e
  have e3:(l.ex.map fun e=>exObs (He.frT h.get? (asA h.get? n)) (He.ga (He.frT h.get? (asA h.get? n)) e.name))=l.ex.map fun e=>some e.text:=congrArg (fun z:AlY=>z.2.2) e
  obtain ⟨a1,a2⟩:=He.ba e1
  have b:obsXA n l.toLX fa fn h.get?=valX fn:=by
    show (l.toLX.ok h.get? (He.frT h.get? (asA h.get? n)),He.obsD fa fn (He.frT h.get? (asA h.get? n)))=(true,He.valD fn)
    rw [a1,e2]
  exact { saysA_of b with x:=fun e he=>xB_ok (List.all_eq_true.mp a2 e he) (List.map_inj_left.mp e3 e he) }
def obsZA (n:Nat) (l:LZ) (fa:List He.Fa) (fn:List He.DefD) (g:Addr->Option Obj):AlZ:=(l.ok (He.frT g (asA g n)),obsYA n l.toLY fa fn g,l.pr.map fun q=>fnWa (He.frT g (asA g n)) (gAt (He.frT g (asA g n)) (He.ga (He.frT g (asA g n)) q.cls) q.prop))
theorem aj3 {n:Nat} {l:LZ} {fa:List He.Fa} {fn:List He.DefD} {h:Heap} (e:obsZA n l fa fn h.get?=valZ l fn):SaysZ l fa fn h (He.frT h.get? (asA h.get? n)):=by
  have e1:l.ok (He.frT h.get? (asA h.get? n))=true:=congrArg (fun z:AlZ=>z.1) e
  have e2:obsYA n l.toLY fa fn h.get?=valY l.toLY fn:=congrArg (fun z:AlZ=>z.2.1) e
  have e3:(l.pr.map fun q=>fnWa (He.frT h.get? (asA h.get? n)) (gAt (He.frT h.get? (asA h.get? n)) (He.ga (He.frT h.get? (asA h.get? n)) q.cls) q.prop))=l.pr.map fun q=>q.df.val:=congrArg (fun z:AlZ=>z.2.2) e
  obtain ⟨a1,a2⟩:=He.ba e1
  exact { saysYA_of e2 with ci:=fun C hC=>cB_ok (List.all_eq_true.mp a1 C hC),pr:=fun q hq=>pB_ok (List.all_eq_true.mp a2 q hq) (List.map_inj_left.mp e3 q hq) }
def hookZA (n:Nat) (l:LZ) (fa:List He.Fa) (fn:List He.DefD):PySem.W.Hook where
  α:=AlZ
  obs:=fun s=>obsZA n l fa fn s.heap.get?
  val:=fun _=>valZ l fn
  says:=fun _ h=>∃ K:PySem.W.Frag,K.In h/\SaysZ l fa fn h K
  of:=fun _ _ e=>⟨_,He.frT_in,aj3 e⟩
  keeps:=fun _ _ _ ⟨K,hK,c⟩ k=>⟨K,PySem.W.Frag.In.keeps hK k,⟨⟨⟨c.c,c.s,c.tc,c.tn,fun p hp=>k _ _ (c.te p hp),c.tu⟩,c.x⟩,c.ci,c.pr⟩⟩
theorem alK {n:Nat} {l:LZ} {fa:List He.Fa} {fn:List He.DefD} {g:Addr->Option Obj} {s:Shared} (h:∀ a,g a=s.heap.get? a):obsZA n l fa fn g=(hookZA n l fa fn).obs s:=by
  have e:g=s.heap.get?:=funext h
  rw [e]<;>rfl
abbrev RR:PySem.W.OpenRow:=PySem.W.OpenLaw.row PySem.Challenge.rw_missingmiles_k16_parts_of_worlds
abbrev hk:PySem.W.Hook:=hookZA 4 lyL faL fnL
def ob (s:PySem.W.SharedT):AlZ:=obsZA 4 lyL faL fnL (HandSHeadRun.getT s)
theorem ob_eq (s:PySem.W.SharedT):ob s=hk.obs s.abs:=alK (HandSHeadRun.getT_eq s)
def names:List PySem.Str:=(["_wall","MilesError","Missing","InvalidRatio","InvalidNumber","InvalidName","InvalidLayer","InvalidTable","InvalidWay","InvalidPlace","TooMany","UnknownName","NothingLeft","ZERO","is_whole","is_number","is_ratio","is_valued","lowest","ratio_of","plus","below","LETTERS","LAYERS","MOST_NAMED","is_name","is_layer","names_text","MOST_PLACES","is_square"]:List PySem.Str)++(["first_fault","checked_table","checked_places","World","_law_source","_law_draw","_law_of","_law_mixed","_law_same","_law_fields","_law_ask","_law_low","_law_plus","_law_less","_law_least","_law_names","_law_length","_law_closed","_law_table","_law_made","_law_told","_law_spread_plan","_law_part"]:List PySem.Str)
abbrev qv:Program:=PySem.W.view RR.prog [0,59]
theorem aj6 {α γ:Type} {β0:Type} {β1:Type} {β2:Type} {β3:Type} {o:Option α} {f0:α->β0} {b0:β0} {f1:α->β1} {b1:β1} {f2:α->β2} {b2:β2} {f3:α->β3} {b3:β3} {f:α->γ} {b:γ} (h0:o.map f0=some b0) (h1:o.map f1=some b1) (h2:o.map f2=some b2) (h3:o.map f3=some b3) (h:∀ x,f0 x=b0->f1 x=b1->f2 x=b2->f3 x=b3->f x=b):o.map f=some b:=by
  cases o with
  | none=>cases h0
  | some x=>
    show some (f x)=some b
    rw [h x (Option.some.inj h0) (Option.some.inj h1) (Option.some.inj h2) (Option.some.inj h3)]
theorem amV {T1:Type} {T6:Type} {T7:Type} {T8:Type} {a0 b0:Bool} (h0:a0=b0) {a1 b1:T1} (h1:a1=b1) {a2 b2:Bool} (h2:a2=b2) {a3 b3:Bool} (h3:a3=b3) {a4 b4:Bool} (h4:a4=b4) {a5 b5:Bool} (h5:a5=b5) {a6 b6:T6} (h6:a6=b6) {a7 b7:T7} (h7:a7=b7) {a8 b8:T8} (h8:a8=b8):(a0,a1,(a2,(a3,(a4 && a5,a6),a7),a8))=(b0,b1,(b2,(b3,(b4 && b5,b6),b7),b8)):=by
  subst h0 h1 h2 h3 h4 h5 h6 h7 h8
  rfl
theorem runG0 (w:World):(HandSHeadRun.wholeF (fun p=>HandSHeadRun.stepQ (HandSHeadRun.denQ HandSHeadRun.tabQ) p w) HandSHeadRun.fenceQ 9000 RR.prog).map (fun x=>(HandSHeadRun.looksF RR.prog x.1.heap x.2.abs,lyL.ok (He.frT (HandSHeadRun.getT x.2) (asA (HandSHeadRun.getT x.2) 4)),lyL.toLY.ex.map fun e=>exObs (He.frT (HandSHeadRun.getT x.2) (asA (HandSHeadRun.getT x.2) 4)) (He.ga (He.frT (HandSHeadRun.getT x.2) (asA (HandSHeadRun.getT x.2) 4)) e.name),lyL.pr.map fun q=>fnWa (He.frT (HandSHeadRun.getT x.2) (asA (HandSHeadRun.getT x.2) 4)) (gAt (He.frT (HandSHeadRun.getT x.2) (asA (HandSHeadRun.getT x.2) 4)) (He.ga (He.frT (HandSHeadRun.getT x.2) (asA (HandSHeadRun.getT x.2) 4)) q.cls) q.prop)))=some ((true,true,lyL.toLY.ex.map fun e=>some e.text,lyL.pr.map fun q=>q.df.val)):=by
  kernel_rfl
theorem runG1 (w:World):(HandSHeadRun.wholeF (fun p=>HandSHeadRun.stepQ (HandSHeadRun.denQ HandSHeadRun.tabQ) p w) HandSHeadRun.fenceQ 9000 RR.prog).map (fun x=>(HandSHeadRun.seenQ qv names (importedModules RR.prog.main.body) (fun s=>PySem.W.xlAt qv [] s && PySem.W.recOk RR.toRowW.records s) x.2.abs,faL.all fun f=>f.ok (He.frT (HandSHeadRun.getT x.2) (asA (HandSHeadRun.getT x.2) 4))))=some ((PySem.W.openGood qv names,true)):=by
  kernel_rfl
theorem runG2 (w:World):(HandSHeadRun.wholeF (fun p=>HandSHeadRun.stepQ (HandSHeadRun.denQ HandSHeadRun.tabQ) p w) HandSHeadRun.fenceQ 9000 RR.prog).map (fun x=>lyL.toLY.ok (HandSHeadRun.getT x.2) (He.frT (HandSHeadRun.getT x.2) (asA (HandSHeadRun.getT x.2) 4)))=some (true):=by
  kernel_rfl
theorem runG3 (w:World):(HandSHeadRun.wholeF (fun p=>HandSHeadRun.stepQ (HandSHeadRun.denQ HandSHeadRun.tabQ) p w) HandSHeadRun.fenceQ 9000 RR.prog).map (fun x=>(fnL.all fun d=>d.ok (He.frT (HandSHeadRun.getT x.2) (asA (HandSHeadRun.getT x.2) 4)),fnL.map fun d=>He.fnW (He.frT (HandSHeadRun.getT x.2) (asA (HandSHeadRun.getT x.2) 4)) d.at_))=some ((true,fnL.map He.DefD.val)):=by
  kernel_rfl
theorem runA (w:World):(HandSHeadRun.wholeF (fun p=>HandSHeadRun.stepQ (HandSHeadRun.denQ HandSHeadRun.tabQ) p w) HandSHeadRun.fenceQ 9000 RR.prog).map (fun x=>(HandSHeadRun.looksF RR.prog x.1.heap x.2.abs,HandSHeadRun.seenQ qv names (importedModules RR.prog.main.body) (fun s=>PySem.W.xlAt qv [] s && PySem.W.recOk RR.toRowW.records s) x.2.abs,ob x.2))=some (true,PySem.W.openGood qv names,hk.val w):=
  aj6 (runG0 w) (runG1 w) (runG2 w) (runG3 w) fun x e0 e1 e2 e3=>amV (congrArg (fun z=>z.1) e0) (congrArg (fun z=>z.1) e1) (congrArg (fun z=>z.2.1) e0) e2 (congrArg (fun z=>z.2) e1) (congrArg (fun z=>z.1) e3) (congrArg (fun z=>z.2) e3) (congrArg (fun z=>z.2.2.1) e0) (congrArg (fun z=>z.2.2.2) e0)
theorem run (w:World):HandSHeadRun.RunEqI RR qv hk ob 9000 names w:=runA w
end
end K16
set_option maxHeartbeats 2000000
namespace DL
open PySem PySem.Spec PyProof.Rows L2
theorem mulW {i j:Int} {B C:Nat} (h1:i.natAbs < 2 ^ B) (h2:j.natAbs < 2 ^ C) (h:B + C<=900000):CMulW i j:=wide_mul (a:=B + 1) (b:=C + 1) (Nat.lt_of_lt_of_le h1 (Nat.pow_le_pow_right (by decide) (by omega))) (Nat.lt_of_lt_of_le h2 (Nat.pow_le_pow_right (by decide) (by omega))) (by omega) (by omega) (by omega)
theorem nbd {B:Nat} {q:Rat} (h:Nb B q):(q.den:Int).natAbs < 2 ^ B:=by simpa using h.d
theorem ajf {p q:Rat} (hp:Nb 3900 p) (hq:Nb 3900 q):((p.den:Int) * (q.den:Int)).natAbs < 2 ^ 8000:=by
  rw [Int.natAbs_mul]
  refine Nat.lt_of_lt_of_le (Nat.mul_lt_mul'' (nbd hp) (nbd hq)) ?_
  rw [<- Nat.pow_add]
  exact Nat.pow_le_pow_right (by decide) (by decide)
theorem aiR {p q:Rat} (e:(p.den:Int)=q.den):p + q=Rat.divInt (p.num + q.num) p.den:=by
  have h0:=den_pos p
  rw [<- agQ,<- e,<- Int.add_mul,Rat.divInt_eq_divInt_iff (by exact Int.ne_of_gt (Int.mul_pos h0 h0)) (by omega),Int.mul_assoc]
def low (c:Nat):Bool:=decide (c∈("abcdefghijklmnopqrstuvwxyz":Str).cps.toList)
def nameOk (z:Str):Bool:=decide (1<=z.length) && decide (z.length<=5) && z.cps.toList.all low
def nameB:D->Bool
  | .str z=>nameOk z
  | _=>false
def lowD:D->D
  | .str s=>.bl (match s.cps.toList with | [c]=>low c | _=>false)
  | _=>.bl false
def rowX (n:Nat) (x:Nat->D):D:=.lst ((List.range n).map x)
def tabX (n:Nat) (x:Nat->Nat->D):D:=.lst ((List.range n).map fun i=>rowX n (x i))
def tabD (n:Nat) (f:Nat->Nat->Rat):D:=tabX n fun i j=>rD (f i j)
structure GoodF (n:Nat) (f:Nat->Nat->Rat):Prop where
  pos:∀ i j,i < n->j < n->0<=f i j
  dia:∀ i,i < n->f i i=0
  tri:∀ i j k,i < n->j < n->k < n->f i j<=f i k + f k j
def leastQ (p q:Rat):Rat:=if q < p then q else p
def stepF (f:Nat->Nat->Rat) (m:Nat):Nat->Nat->Rat:=fun i j=>leastQ (f i j) (f i m + f m j)
def closeF (f:Nat->Nat->Rat):Nat->Nat->Nat->Rat
  | 0=>f
  | m + 1=>stepF (closeF f m) m
theorem akB (p q:Rat):leastQ p q<=p:=by
  unfold leastQ
  split
  · grind
  · grind
theorem akA (p q:Rat):leastQ p q<=q:=by
  unfold leastQ
  split
  · grind
  · grind
theorem least_or (p q:Rat):leastQ p q=p\/leastQ p q=q:=by
  unfold leastQ
  split
  · exact .inr rfl
  · exact .inl rfl
structure UpTo (n m:Nat) (g:Nat->Nat->Rat):Prop where
  pos:∀ i j,i < n->j < n->0<=g i j
  dia:∀ i,i < n->g i i=0
  tri:∀ i j k,i < n->j < n->k < m->g i j<=g i k + g k j
theorem amF {n m:Nat} {g:Nat->Nat->Rat} (h:UpTo n m g) (hm:m < n):UpTo n (m + 1) (stepF g m):=by
  have col:∀ i,i < n->stepF g m i m=g i m:=fun i hi=>by
    unfold stepF leastQ
    have:=h.dia m hm
    split
    · rename_i z;grind
    · rfl
  have row:∀ j,j < n->stepF g m m j=g m j:=fun j hj=>by
    unfold stepF leastQ
    have:=h.dia m hm
    split
    · rename_i z;grind
    · rfl
  refine ⟨fun i j hi hj=>?_,fun i hi=>?_,fun i j k hi hj hk=>?_⟩
  · have h1:=h.pos i j hi hj
    have h2:=h.pos i m hi hm
    have h3:=h.pos m j hm hj
    unfold stepF
    rcases least_or (g i j) (g i m + g m j) with e | e<;>rw [e]
    · exact h1
    · grind
  · have h1:=h.dia i hi
    have h2:=h.pos i m hi hm
    have h3:=h.pos m i hm hi
    unfold stepF leastQ
    split
    · grind
    · exact h1
  · have l1:=akB (g i j) (g i m + g m j)
    have l2:=akA (g i j) (g i m + g m j)
    by_cases e:k=m
    · subst e
      rw [col i hi,row j hj]
      exact l2
    · have hk':k < m:=by omega
      have kn:k < n:=by omega
      show leastQ (g i j) (g i m + g m j)<=leastQ (g i k) (g i m + g m k) + leastQ (g k j) (g k m + g m j)
      have t1:=h.tri i j k hi hj hk'
      have t2:=h.tri m j k hm hj hk'
      have t3:=h.tri i m k hi hm hk'
      have p1:=h.pos m k hm kn
      have p2:=h.pos k m kn hm
      rcases least_or (g i k) (g i m + g m k) with e1 | e1<;>rcases least_or (g k j) (g k m + g m j) with e2 | e2<;>rw [e1,e2]<;>grind
theorem ajl {n:Nat} {f:Nat->Nat->Rat} (h1:∀ i j,i < n->j < n->0<=f i j) (h2:∀ i,i < n->f i i=0):∀ m,m<=n->UpTo n m (closeF f m)
  | 0,_=>⟨h1,h2,fun _ _ _ _ _ z=>absurd z (by omega)⟩
  | m + 1,h=>amF (ajl h1 h2 m (by omega)) (by omega)
theorem ajJ {n:Nat} {f:Nat->Nat->Rat} (h1:∀ i j,i < n->j < n->0<=f i j) (h2:∀ i,i < n->f i i=0):GoodF n (closeF f n):=
  let u:=ajl h1 h2 n (Nat.le_refl _)
  ⟨u.pos,u.dia,u.tri⟩
def bitsF:Nat->Nat
  | 0=>40
  | m + 1=>2 * bitsF m + 1
theorem ad0 {n:Nat} {f:Nat->Nat->Rat} (h:∀ i j,i < n->j < n->Nb 40 (f i j)):∀ m,m<=n->∀ i j,i < n->j < n->Nb (bitsF m) (closeF f m i j)
  | 0,_,i,j,hi,hj=>h i j hi hj
  | m + 1,hm,i,j,hi,hj=>by
    have a:=ad0 h m (by omega) i j hi hj
    have b:=ad0 h m (by omega) i m hi (by omega)
    have c:=ad0 h m (by omega) m j (by omega) hj
    show Nb (2 * bitsF m + 1) (leastQ (closeF f m i j) (closeF f m i m + closeF f m m j))
    rcases least_or (closeF f m i j) (closeF f m i m + closeF f m m j) with e | e<;>rw [e]
    · exact a.mono (by omega)
    · exact (aks b c).mono (by omega)
section
variable {g:TDG} {tt:TDT} {te:TD} {vs:List Nat} {Q:DV->DSt->Prop}
theorem aiq (f:Nat->D) (S:DSt) {n:Nat} (hl:n<=szl)
    (step:∀ i,i < n->∀ (M:D->DSt->Prop) (A:DSt->Prop),M (f i) S->g (.int (i:Int)) S fun s1=>tt s1 (fun b s2=>Br b (te s2 (fun x s3=>match pubV x with
      | .d y=>M y (wipeD s3 vs)
      | _=>False) fun _ _ _=>False) (A (wipeD s2 vs))) fun _ _ _=>False) (q:Q (.own (.lst ((List.range n).map f))) S):dLcL g tt te vs Q (intsFrom 0 n) [] S:=by
  refine adb (fun d=>match d with | .int i=>f i.toNat | _=>.non) S (by rw [abp];exact hl) (fun d hd M A m=>?_) ?_
  · obtain ⟨i,hi,rfl⟩:=ab6 hd
    have e:(0:Int) + (i:Int)=(i:Int):=by omega
    rw [e] at m ⊢
    exact step i hi M A (by simpa using m)
  · rw [ai7]
    have e:(List.range n).map (fun (i:Nat)=>(match D.int ((0:Int) + (i:Int)) with | .int i=>f i.toNat | _=>.non))=(List.range n).map f:=List.map_congr_left fun i _=>by
      show f ((0:Int) + (i:Int)).toNat=f i
      congr 1;omega
    rw [e];exact q
theorem afh (R:Nat->D->Prop) (S:DSt) {n:Nat} (hl:n<=szl)
    (step:∀ i,i < n->∀ (M:D->DSt->Prop) (A:DSt->Prop),(∀ y,R i y->M y S)->g (.int (i:Int)) S fun s1=>tt s1 (fun b s2=>Br b (te s2 (fun x s3=>match pubV x with
      | .d y=>M y (wipeD s3 vs)
      | _=>False) fun _ _ _=>False) (A (wipeD s2 vs))) fun _ _ _=>False) (q:∀ f:Nat->D,(∀ i,i < n->R i (f i))->Q (.own (.lst ((List.range n).map f))) S):dLcL g tt te vs Q (intsFrom 0 n) [] S:=by
  have go:∀ (k:Nat) (f:Nat->D) (acc:List D) (i:Nat),i + k=n->acc=(List.range i).map f->(∀ j,j < i->R j (f j))->dLcL g tt te vs Q (intsFrom (i:Int) k) acc S:=by
    intro k
    induction k with
    | zero=>
      intro f acc i h1 h2 h3
      show dLcL g tt te vs Q [] acc S
      rw [lcL_nil,h2]
      have e:i=n:=by omega
      subst e
      exact q f h3
    | succ k ih=>
      intro f acc i h1 h2 h3
      show dLcL g tt te vs Q (.int (i:Int)::intsFrom ((i:Int) + 1) k) acc S
      rw [adV]
      refine step i (by omega) (fun y s=>acc.length < szl/\dLcL g tt te vs Q (intsFrom ((i:Int) + 1) k) (acc++[y]) s) (fun s=>dLcL g tt te vs Q (intsFrom ((i:Int) + 1) k) acc s) (fun y hy=>⟨by rw [h2,List.length_map,List.length_range];omega,?_⟩)
      have e:((i:Int) + 1)=((i + 1:Nat):Int):=by omega
      rw [e]
      refine ih (fun j=>if j=i then y else f j) (acc++[y]) (i + 1) (by omega) ?_ (fun j hj=>?_)
      · rw [List.range_succ,List.map_append,h2]
        congr 1
        · exact List.map_congr_left fun j hj=>by
            have:=List.mem_range.mp hj
            show f j=if j=i then y else f j
            rw [if_neg (by omega)]
        · show [y]=[if i=i then y else f i]
          rw [if_pos rfl]
      · by_cases ej:j=i
        · subst ej
          show R j (if j=j then y else f j)
          rw [if_pos rfl];exact hy
        · show R j (if j=i then y else f j)
          rw [if_neg ej];exact h3 j (by omega)
  exact go n (fun _=>.non) [] 0 (by omega) rfl (fun j hj=>absurd hj (by omega))
end
theorem amB {f:Nat->D} {n i:Nat} (h:i < n):atI ((List.range n).map f) (i:Int)=some (f i):=agH (by rw [List.getElem?_range h])
theorem ag0 {n i:Nat} {x:Nat->Nat->D} {Q:DV->Prop} (h:i < n) (q:Q (.d (rowX n (x i)))):ixR (.d (tabX n x)) (.d (.int (i:Int))) Q:=acB (ds:=(List.range n).map fun i=>rowX n (x i)) rfl (amB h) q
theorem ag1 {n i:Nat} {x:Nat->D} {Q:DV->Prop} (h:i < n) (q:Q (.d (x i))):ixR (.d (rowX n x)) (.d (.int (i:Int))) Q:=acB (ds:=(List.range n).map x) rfl (amB h) q
theorem aed {n:Nat} {x:Nat->Nat->D} {Q:DV->Prop} (q:Q (.d (.int (n:Int)))):lenR [.d (tabX n x)] Q:=abk (ds:=(List.range n).map fun i=>rowX n (x i)) rfl (by rw [List.length_map,List.length_range];exact q)
def nmD (ks:List Str) (pl:Str->Nat):List (Key × D):=ks.map fun z=>(Sum.inr z,.int (pl z))
theorem aii {ks:List Str} {pl:Str->Nat} {z:Str}:valD (nmD ks pl) (.inr z)=if z∈ks then some (.int (pl z)) else none:=by
  induction ks with
  | nil=>rfl
  | cons y r ih=>
    show valD ((Sum.inr y,D.int (pl y))::nmD r pl) (.inr z)=_
    by_cases e:y=z
    · subst e
      rw [aeo rfl,if_pos (List.mem_cons_self ..)]
    · rw [aep (fun h=>e (Sum.inr.inj h)),ih]
      by_cases m:z∈r
      · rw [if_pos m,if_pos (List.mem_cons_of_mem _ m)]
      · rw [if_neg m,if_neg (fun h=>by rcases List.mem_cons.mp h with h | h;exact e h.symm;exact m h)]
theorem afI {kvs:List (Key × D)} {k:Key} {d:D} (h:valD kvs k=none):putKD kvs k d=kvs++[(k,d)]:=by
  unfold putKD
  rw [if_neg]
  intro z
  obtain ⟨p,hp,e⟩:=List.any_eq_true.mp z
  have:∀ l:List (Key × D),p∈l->valD l k≠none:=by
    intro l
    induction l with
    | nil=>intro h;cases h
    | cons q r ih=>
      intro h
      by_cases e2:q.1=k
      · rw [aeo e2];simp
      · rw [aep e2]
        rcases List.mem_cons.mp h with h | h
        · subst h;exact absurd (of_decide_eq_true e) e2
        · exact ih h
  exact this kvs hp h
theorem ai0 (pl:Str->Nat):∀ (ks done:List Str),(done++ks).Nodup->mergeD (nmD done pl) (nmD ks pl)=nmD (done++ks) pl
  | [],done,_=>by rw [List.append_nil];rfl
  | z::r,done,h=>by
    show mergeD (putKD (nmD done pl) (.inr z) (.int (pl z))) (nmD r pl)=_
    have nz:z∉done:=fun m=>by
      have:=List.nodup_append.mp h
      exact this.2.2 z m z (List.mem_cons_self ..) rfl
    rw [afI (by rw [aii,if_neg nz])]
    have e:nmD done pl++[(Sum.inr z,D.int (pl z))]=nmD (done++[z]) pl:=by unfold nmD;rw [List.map_append];rfl
    rw [e,ai0 pl r (done++[z]) (by rw [List.append_assoc];exact h),List.append_assoc];rfl
theorem aiX (pl:Str->Nat):∀ ks:List Str,pairsD (ks.map fun z=>D.tup [.str z,.int (pl z)])=some (nmD ks pl)
  | []=>rfl
  | z::r=>by
    show pairsD (D.tup [.str z,.int (pl z)]::r.map fun z=>D.tup [.str z,.int (pl z)])=_
    unfold pairsD
    rw [aiX pl r];rfl
def rOfD (d:D):D:=match ratOf d with
  | some q=>rD q
  | none=>d
theorem amC {xs:List D} {i:Nat} {x:D} (h:xs[i]?=some x):atI xs (i:Int)=some x:=by
  have:=agH (f:=fun d:D=>d) h
  rw [List.map_id'] at this
  exact this
theorem ahd {xs:List D} {x:D}:atI (x::xs) 0=some x:=amC (i:=0) rfl
theorem amb (a b:List Nat):wd a++wd b=wd (a++b):=by
  show (⟨a.toArray++b.toArray⟩:Str)=⟨(a++b).toArray⟩
  simp
theorem alh {cs:List Nat} {k:Nat} (h:k<=cs.length):cutS (wd cs) none (some (k:Int))=wd (cs.take k):=by
  have l:(wd cs).length=cs.length:=agz cs
  unfold cutS
  have e1:HT.sIx (wd cs).length 0 none=0:=rfl
  have e2:HT.sIx (wd cs).length (wd cs).length (some (k:Int))=k:=by rw [HT.sIx_nat,l];omega
  rw [e1,e2]
  show (⟨((cs.toArray.toList.drop 0).take (k - 0)).toArray⟩:Str)=⟨(cs.take k).toArray⟩
  simp
theorem ali {cs:List Nat} {k:Nat} (h:k<=cs.length):cutS (wd cs) (some (k:Int)) none=wd (cs.drop k):=by
  have l:(wd cs).length=cs.length:=agz cs
  unfold cutS
  have e1:HT.sIx (wd cs).length (wd cs).length none=cs.length:=l
  have e2:HT.sIx (wd cs).length 0 (some (k:Int))=k:=by rw [HT.sIx_nat,l];omega
  rw [e1,e2]
  show (⟨((cs.toArray.toList.drop k).take (cs.length - k)).toArray⟩:Str)=⟨(cs.drop k).toArray⟩
  have e3:(cs.drop k).take (cs.length - k)=cs.drop k:=List.take_of_length_le (by rw [List.length_drop];omega)
  simp [e3]
theorem am7 {l:List Nat} (h1:1<=l.length) (h5:l.length<=5) (h:∀ c∈l,low c=true):nameOk (wd l)=true:=by
  unfold nameOk
  rw [agz,decide_eq_true h1,decide_eq_true h5]
  show (l.toArray.toList.all low)=true
  rw [List.all_eq_true]
  intro c hc
  exact h c (by simpa using hc)
theorem ama {a b:List Nat} (h:wd a=wd b):a=b:=by
  have:=congrArg (fun z:Str=>z.cps.toList) h
  simpa using this
theorem ac3 {α:Type} {xs:List α} {k:Nat}:cut xs none (some (k:Int))=xs.take k:=by
  unfold cut
  have e1:HT.sIx xs.length 0 none=0:=rfl
  have e2:HT.sIx xs.length xs.length (some (k:Int))=min k xs.length:=HT.sIx_nat _ _ _
  rw [e1,e2,List.drop_zero,Nat.sub_zero]
  rcases Nat.le_total k xs.length with h | h
  · rw [Nat.min_eq_left h]
  · rw [Nat.min_eq_right h,List.take_of_length_le (Nat.le_refl _),List.take_of_length_le h]
theorem ad2 {α:Type} {f:α->D} {P:α->Prop}:∀ {es:List D},(∀ x∈es,∃ a,x=f a/\P a)->∃ as:List α,es=as.map f/\∀ a∈as,P a
  | [],_=>⟨[],rfl,fun _ h=>by cases h⟩
  | x::r,h=>by
    obtain ⟨a,rfl,ha⟩:=h x (List.mem_cons_self ..)
    obtain ⟨as,rfl,h2⟩:=ad2 (es:=r) fun y hy=>h y (List.mem_cons_of_mem _ hy)
    refine ⟨a::as,rfl,fun z hz=>?_⟩
    rcases List.mem_cons.mp hz with rfl | hz
    · exact ha
    · exact h2 z hz
theorem aeU {α:Type} {f:α->D} {as:List α} (h:(as.map f).Nodup):as.Nodup:=by
  induction as with
  | nil=>exact List.nodup_nil
  | cons a r ih=>
    rw [List.map_cons,List.nodup_cons] at h
    rw [List.nodup_cons]
    exact ⟨fun m=>h.1 (List.mem_map.mpr ⟨a,m,rfl⟩),ih h.2⟩
theorem ahN {α β:Type} {f:α->β} (inj:∀ a b,f a=f b->a=b) {as:List α} (h:as.Nodup):(as.map f).Nodup:=by
  induction as with
  | nil=>exact List.nodup_nil
  | cons a r ih=>
    rw [List.nodup_cons] at h
    rw [List.map_cons,List.nodup_cons]
    refine ⟨fun m=>?_,ih h.2⟩
    obtain ⟨b,hb,e⟩:=List.mem_map.mp m
    exact h.1 (inj b a e ▸ hb)
theorem aeW:∀ (n:Nat) (lo:Int),(intsFrom lo n).Nodup
  | 0,_=>List.nodup_nil
  | n + 1,lo=>by
    show (D.int lo::intsFrom (lo + 1) n).Nodup
    rw [List.nodup_cons]
    refine ⟨fun m=>?_,aeW n (lo + 1)⟩
    obtain ⟨i,_,e⟩:=ab6 m
    injection e with e
    omega
theorem aon:∀ (ks:List Str) (qs:List Nat),ks.Nodup->ks.length<=qs.length->∃ pl:Str->Nat,∀ (k:Nat) (z:Str),ks[k]?=some z->qs[k]?=some (pl z)
  | [],_,_,_=>⟨fun _=>0,fun k z h=>by simp at h⟩
  | y::r,[],_,h=>by simp at h
  | y::r,q::s,nd,h=>by
    rw [List.nodup_cons] at nd
    obtain ⟨pl,hp⟩:=aon r s nd.2 (by simpa using h)
    refine ⟨fun z=>if z=y then q else pl z,fun k z hk=>?_⟩
    match k,hk with
    | 0,hk=>
      have e:y=z:=by simpa using hk
      subst e
      show some q=some (if y=y then q else pl y)
      rw [if_pos rfl]
    | k + 1,hk=>
      have hk':r[k]?=some z:=by simpa using hk
      have ne:z≠y:=fun e=>nd.1 (e ▸ List.mem_of_getElem? hk')
      have:s[k]?=some (pl z):=hp k z hk'
      show (q::s)[k + 1]?=some (if z=y then q else pl z)
      rw [if_neg ne]
      simpa using this
theorem amY {α:Type} {xs:List α} {g:Nat->D} {f:α->D} (h:∀ (k:Nat) (x:α),xs[k]?=some x->g k=f x):(List.range xs.length).map g=xs.map f:=by
  refine List.ext_getElem? fun k=>?_
  rw [List.getElem?_map,List.getElem?_map]
  rcases Nat.lt_or_ge k xs.length with hk | hk
  · rw [List.getElem?_range hk,List.getElem?_eq_getElem hk]
    show some (g k)=some (f xs[k])
    rw [h k xs[k] (List.getElem?_eq_getElem hk)]
  · rw [List.getElem?_eq_none (by rw [List.length_range];exact hk),List.getElem?_eq_none hk];rfl
def leS (a b:Str):Prop:=ltCps b.cps.toList a.cps.toList=false
theorem aek {a b:Str}:leS a b ↔ a.cps.toList<=b.cps.toList:=by
  unfold leS
  rw [ltCps_eq]
  rw [decide_eq_false_iff_not,List.not_lt]
theorem ai1 (a:Str):leS a a:=aek.mpr (List.le_refl _)
theorem akC {a b c:Str} (h:leS a b) (h2:leS b c):leS a c:=aek.mpr (List.le_trans (aek.mp h) (aek.mp h2))
theorem alP {a b:Str} (h:leS a b) (h2:leS b a):a=b:=by
  have e:=List.le_antisymm (aek.mp h) (aek.mp h2)
  cases a with | mk x=>cases b with | mk y=>
  have:x=y:=Array.toList_inj.mp e
  rw [this]
theorem ahz:∀ (p:Str) (l:List Str),risingS p l=true->(p::l).Pairwise leS
  | p,[],_=>List.pairwise_singleton ..
  | p,x::r,h=>by
    have h0:(!ltCps x.cps.toList p.cps.toList && risingS x r)=true:=h
    rw [Bool.and_eq_true] at h0
    have h1:leS p x:=by unfold leS;simpa using h0.1
    have h2:=ahz x r h0.2
    refine List.pairwise_cons.mpr ⟨fun y hy=>?_,h2⟩
    rcases List.mem_cons.mp hy with rfl | hy
    · exact h1
    · exact akC h1 ((List.pairwise_cons.mp h2).1 y hy)
theorem aer {l:List Str} (h:sortedS l=true):l.Pairwise leS:=by
  cases l with
  | nil=>exact .nil
  | cons x r=>exact ahz x r h
theorem aif:∀ {a b:List Str},a.Pairwise leS->b.Pairwise leS->a.Perm b->a=b
  | [],b,_,_,h=>(List.nil_perm.mp h).symm ▸ rfl
  | x::r,[],_,_,h=>by have:=h.length_eq;simp at this
  | x::r,y::t,h1,h2,h=>by
    obtain ⟨p1,p2⟩:=List.pairwise_cons.mp h1
    obtain ⟨q1,q2⟩:=List.pairwise_cons.mp h2
    have e:x=y:=by
      refine alP ?_ ?_
      · rcases List.mem_cons.mp (h.mem_iff.mpr (List.mem_cons_self ..):y∈x::r) with e | m
        · rw [e];exact ai1 _
        · exact p1 y m
      · rcases List.mem_cons.mp (h.mem_iff.mp (List.mem_cons_self ..):x∈y::t) with e | m
        · rw [e];exact ai1 _
        · exact q1 x m
    subst e
    rw [aif p2 q2 ((List.perm_cons x).mp h)]
theorem aet {a b:List Str} (h1:sortedS a=true) (h2:sortedS b=true) (h:a.Perm b):a=b:=aif (aer h1) (aer h2) h
def kvD (ks:List Str) (val:Str->D):List (Key × D):=ks.map fun z=>(Sum.inr z,val z)
theorem ag2 (ks:List Str) (val:Str->D):(kvD ks val).map (·.1)=ks.map Sum.inr:=by unfold kvD;rw [List.map_map];rfl
theorem ais (ks:List Str) (val:Str->D):(kvD ks val).length=ks.length:=by unfold kvD;rw [List.length_map]
theorem aeV {ks:List Str} {val:Str->D} {z:Str}:valD (kvD ks val) (.inr z)=if z∈ks then some (val z) else none:=by
  induction ks with
  | nil=>rfl
  | cons y r ih=>
    show valD ((Sum.inr y,val y)::kvD r val) (.inr z)=_
    by_cases e:y=z
    · subst e
      rw [aeo rfl,if_pos (List.mem_cons_self ..)]
    · rw [aep (fun h=>e (Sum.inr.inj h)),ih]
      by_cases m:z∈r
      · rw [if_pos m,if_pos (List.mem_cons_of_mem _ m)]
      · rw [if_neg m,if_neg (fun h=>by rcases List.mem_cons.mp h with h | h;exact e h.symm;exact m h)]
theorem anr (a b:List Str) (val:Str->D):kvD (a++b) val=kvD a val++kvD b val:=by unfold kvD;rw [List.map_append]
def plF (val:Str->D) (n:Nat):List D->List Str->Option D
  | _,[]=>none
  | tk,z::r=>if numD 0 ((n:Int) - 1) (val z) && !inF (val z) tk then plF val n (tk++[val z]) r else some (val z)
theorem akh {val:Str->D} {n:Nat} {tk:List D} {z:Str} {r:List Str} (h1:numD 0 ((n:Int) - 1) (val z)=true) (h2:inF (val z) tk=false):plF val n tk (z::r)=plF val n (tk++[val z]) r:=by
  show (if numD 0 ((n:Int) - 1) (val z) && !inF (val z) tk then plF val n (tk++[val z]) r else some (val z))=_
  rw [h1,h2];rfl
theorem aki {val:Str->D} {n:Nat} {tk:List D} {z:Str} {r:List Str} (h:numD 0 ((n:Int) - 1) (val z)=false\/inF (val z) tk=true):plF val n tk (z::r)=some (val z):=by
  show (if numD 0 ((n:Int) - 1) (val z) && !inF (val z) tk then plF val n (tk++[val z]) r else some (val z))=_
  rcases h with h | h<;>rw [h]
  · rfl
  · rw [Bool.not_true,Bool.and_false];rfl
theorem aiV {pl:Str->Nat} {n:Nat}:∀ (ys dn:List Str),(dn++ys).Nodup->(∀ z∈dn++ys,pl z < n)->(∀ z∈dn++ys,∀ y∈dn++ys,pl z=pl y->z=y)->plF (fun z=>.int (pl z)) n (dn.map fun z=>D.int (pl z)) ys=none
  | [],_,_,_,_=>rfl
  | z::r,dn,hn,hl,hi=>by
    have mz:z∈dn++z::r:=by simp
    have lz:=hl z mz
    have e3:numD 0 ((n:Int) - 1) (.int (pl z))=true:=by
      show (decide ((0:Int)<=(pl z:Nat)) && decide (((pl z:Nat):Int)<=(n:Int) - 1))=true
      rw [decide_eq_true (by omega),decide_eq_true (by omega)];rfl
    have nz:z∉dn:=fun m=>(List.nodup_append.mp hn).2.2 z m z (List.mem_cons_self ..) rfl
    have e5:inF (.int (pl z)) (dn.map fun y=>D.int (pl y))=false:=by
      unfold inF
      rw [List.any_map,List.any_eq_false]
      intro y hy c
      have e6:((pl y:Nat):Int)=(pl z:Nat):=eq_of_beq (show (((pl y:Nat):Int) == ((pl z:Nat):Int))=true from c)
      exact nz ((hi y (by simp [hy]) z mz (by omega)) ▸ hy)
    have ea:dn++z::r=(dn++[z])++r:=by simp
    rw [akh e3 e5]
    have:=aiV r (dn++[z]) (ea ▸ hn) (ea ▸ hl) (ea ▸ hi)
    rw [List.map_append] at this
    exact this
theorem anP {X:Cx} {W:WX} {pos:Pos}:DE X W (.Dict [] [] pos) (dC (.dk [])):=by
  refine aa3 (akl pe_dnewK) fun σ H R ⟨G,so,sl,Q,E,rep,q,hq,hx⟩ p n=>⟨p,_,upd_same,trivial,fun od=>?_⟩
  rw [upd_upd]
  have gl:G p=none:=rep.h.ex.free n
  have sl':so.Nt p:=rep.h.there n
  refine hq _ _ (upd G p _) (.d (.dk _)) sl ((Post.refl rep).thenV ⟨Ex.new gl,aeE rep.h gl sl',fun b o eb sb=>?_,fun b n1 g sb=>?_,.dk upd_same .nil,fun _ _ z=>(nomatch z),fun _ z=>(nomatch z)⟩) q
  · rw [upd_ne (ne_of_none eb n)];exact eb
  · rw [upd_ne (fun z=>n1 (by rw [z];exact n))];exact g
def Ln (L B:Nat) (q:Rat):Prop:=∃ a:Nat,q=mkRat (a:Int) L/\a<=B
theorem Ln.mono {L B C:Nat} {q:Rat} (h:Ln L B q) (le:B<=C):Ln L C q:=let ⟨a,e,l⟩:=h;⟨a,e,Nat.le_trans l le⟩
theorem Ln.add {L B C:Nat} {p q:Rat} (hL:L≠0) (h:Ln L B p) (h2:Ln L C q):Ln L (B + C) (p + q):=by
  obtain ⟨a,rfl,ha⟩:=h
  obtain ⟨b,rfl,hb⟩:=h2
  refine ⟨a + b,?_,by omega⟩
  rw [Rat.mkRat_add_mkRat _ _ hL hL,<- Int.add_mul,Rat.mkRat_mul_right hL]
  rfl
theorem Ln.nb {L B k:Nat} {q:Rat} (hL:L≠0) (h:Ln L B q) (h1:B < 2 ^ k) (h2:L < 2 ^ k):Nb k q:=by
  obtain ⟨a,rfl,ha⟩:=h
  refine ⟨?_,?_⟩
  · rw [Rat.num_mkRat]
    split
    · exact Nat.pow_pos (by decide)
    · refine Nat.lt_of_le_of_lt ?_ h1
      refine Nat.le_trans ?_ ha
      have:((a:Int) / ((L.gcd (a:Int).natAbs:Nat):Int)).natAbs<=a:=by
        rw [Int.natAbs_natCast,<- Int.natCast_ediv,Int.natAbs_natCast]
        exact Nat.div_le_self ..
      exact this
  · rw [Rat.den_mkRat,if_neg hL]
    exact Nat.lt_of_le_of_lt (Nat.div_le_self ..) h2
theorem Ln.nn {L B:Nat} {q:Rat} (h:Ln L B q):0<=q:=by
  obtain ⟨a,rfl,ha⟩:=h
  rw [<- Rat.num_nonneg,Rat.num_mkRat]
  split
  · decide
  · exact Int.ediv_nonneg (by omega) (by omega)
theorem am9 {L B:Nat}:Ln L B 0:=⟨0,(Rat.zero_mkRat L).symm,Nat.zero_le _⟩
theorem alN {L B:Nat} {p q:Rat} (h:Ln L B p) (h2:Ln L B q):Ln L B (leastQ p q):=by
  unfold leastQ
  split
  · exact h2
  · exact h
theorem ajm {L B n:Nat} {f:Nat->Nat->Rat} (hL:L≠0) (h:∀ i j,i < n->j < n->Ln L B (f i j)):∀ m,m<=n->∀ i j,i < n->j < n->Ln L (B * 2 ^ m) (closeF f m i j)
  | 0,_,i,j,hi,hj=>(h i j hi hj).mono (by omega)
  | m + 1,hm,i,j,hi,hj=>by
    have ih:=ajm hL h m (by omega)
    show Ln L (B * 2 ^ (m + 1)) (stepF (closeF f m) m i j)
    have e:B * 2 ^ (m + 1)=B * 2 ^ m + B * 2 ^ m:=by rw [Nat.pow_succ,Nat.mul_comm (2 ^ m) 2,Nat.mul_left_comm];omega
    rw [e]
    exact alN ((ih i j hi hj).mono (by omega)) ((ih i m hi (by omega)).add hL (ih m j (by omega) hj))
section
variable {g:TDG} {tt:TDT} {te:TD} {vs:List Nat} {Q:DV->DSt->Prop}
theorem alQ (h:Nat->D) (R:Nat->D->Prop) (S:DSt) {n:Nat} (hl:n<=szl)
    (step:∀ i,i < n->∀ (M:D->DSt->Prop) (A:DSt->Prop),(∀ y,R i y->M y S)->g (h i) S fun s1=>tt s1 (fun b s2=>Br b (te s2 (fun x s3=>match pubV x with
      | .d y=>M y (wipeD s3 vs)
      | _=>False) fun _ _ _=>False) (A (wipeD s2 vs))) fun _ _ _=>False) (q:∀ f:Nat->D,(∀ i,i < n->R i (f i))->Q (.own (.lst ((List.range n).map f))) S):dLcL g tt te vs Q ((List.range n).map h) [] S:=by
  have go:∀ (k:Nat) (f:Nat->D) (acc:List D) (i:Nat),i + k=n->acc=(List.range i).map f->(∀ j,j < i->R j (f j))->dLcL g tt te vs Q ((List.range' i k).map h) acc S:=by
    intro k
    induction k with
    | zero=>
      intro f acc i h1 h2 h3
      show dLcL g tt te vs Q [] acc S
      rw [lcL_nil,h2]
      have e:i=n:=by omega
      subst e
      exact q f h3
    | succ k ih=>
      intro f acc i h1 h2 h3
      show dLcL g tt te vs Q (h i::(List.range' (i + 1) k).map h) acc S
      rw [adV]
      refine step i (by omega) (fun y s=>acc.length < szl/\dLcL g tt te vs Q ((List.range' (i + 1) k).map h) (acc++[y]) s) (fun s=>dLcL g tt te vs Q ((List.range' (i + 1) k).map h) acc s) (fun y hy=>⟨by rw [h2,List.length_map,List.length_range];omega,?_⟩)
      refine ih (fun j=>if j=i then y else f j) (acc++[y]) (i + 1) (by omega) ?_ (fun j hj=>?_)
      · rw [List.range_succ,List.map_append,h2]
        congr 1
        · exact List.map_congr_left fun j hj=>by
            have:=List.mem_range.mp hj
            show f j=if j=i then y else f j
            rw [if_neg (by omega)]
        · show [y]=[if i=i then y else f i]
          rw [if_pos rfl]
      · show R j (if j=i then y else f j)
        by_cases e:j=i
        · subst e;rw [if_pos rfl];exact hy
        · rw [if_neg e];exact h3 j (by omega)
  have:=go n (fun _=>.non) [] 0 (by omega) rfl (fun j hj=>absurd hj (by omega))
  rw [List.range_eq_range']
  exact this
theorem ada (h f:Nat->D) (S:DSt) {n:Nat} (hl:n<=szl)
    (step:∀ i,i < n->∀ (M:D->DSt->Prop) (A:DSt->Prop),M (f i) S->g (h i) S fun s1=>tt s1 (fun b s2=>Br b (te s2 (fun x s3=>match pubV x with
      | .d y=>M y (wipeD s3 vs)
      | _=>False) fun _ _ _=>False) (A (wipeD s2 vs))) fun _ _ _=>False) (q:Q (.own (.lst ((List.range n).map f))) S):dLcL g tt te vs Q ((List.range n).map h) [] S:=
  alQ h (fun i y=>y=f i) S hl (fun i hi M A hM=>step i hi M A (hM _ rfl)) (fun f' hf=>by
    have e:(List.range n).map f'=(List.range n).map f:=List.map_congr_left fun i hi=>hf i (List.mem_range.mp hi)
    rw [e];exact q)
end
theorem aly (C:Prop) {t u:TDS} {E:EndsD} {sl:DSt} (h:∀ N:DSt->Prop,(C->N sl)->t { E with nx:=N } sl) (q:C->u E sl):dSeq t u E sl:=
  aa1 (fun s=>C/\s=sl) (fun N hN=>h N fun c=>hN _ ⟨c,rfl⟩) (fun s ⟨c,e⟩=>e ▸ q c)
theorem agD {m:Int} {k B:Nat} (h0:0<=m) (h1:m<=(B:Int)) (c:Nat) (hc:k * c=60):Ln 60 (B * 60) (Rat.divInt m (k:Int)):=by
  have hk:k≠0:=fun e=>by subst e;omega
  have hc0:c≠0:=fun e=>by subst e;omega
  refine ⟨m.toNat * c,?_,?_⟩
  · rw [Rat.divInt_ofNat]
    have e:mkRat m k=mkRat (m * (c:Int)) (k * c):=(Rat.mkRat_mul_right hc0).symm
    rw [e,hc]
    congr 1
    rw [Int.natCast_mul,Int.toNat_of_nonneg h0]
  · have hc60:c<=60:=by
      rw [<- hc];exact Nat.le_mul_of_pos_left _ (Nat.pos_of_ne_zero hk)
    exact Nat.mul_le_mul (by omega) hc60
theorem aop {n:Int} {B:Nat} (h0:0<=n) (h1:n<=(B:Int)):Ln 60 (B * 60) (n:Rat):=by
  have:=agD (k:=1) h0 h1 60 rfl
  have e:Rat.divInt n ((1:Nat):Int)=(n:Rat):=aff (n:Rat)
  rw [e] at this;exact this
theorem ana {m k:Int} {B:Nat} (h0:0<=m) (h1:m<=(B:Int)) (k1:1<=k) (k2:k<=5):Ln 60 (B * 60) (Rat.divInt m k):=by
  have hk:k=1\/k=2\/k=3\/k=4\/k=5:=by omega
  rcases hk with rfl | rfl | rfl | rfl | rfl
  · exact agD (k:=1) h0 h1 60 rfl
  · exact agD (k:=2) h0 h1 30 rfl
  · exact agD (k:=3) h0 h1 20 rfl
  · exact agD (k:=4) h0 h1 15 rfl
  · exact agD (k:=5) h0 h1 12 rfl
def setK (i:Nat) (u:TDS) (E:EndsD):DV->DSt->Prop
  | .see _,_=>False
  | y,s1=>u E (s1.set i (some y))
theorem ajS {te:TD} {i:Nat} {u:TDS} {E:EndsD} {sl:DSt} (h:te sl (setK i u E) E.xc):dSeq (dSet te i) u E sl:=by
  have e:(fun (x:DV) (s1:DSt)=>match x with
    | .see _=>False
    | y=>u E (s1.set i (some y)))=setK i u E:=funext fun x=>funext fun s=>by cases x<;>rfl
  show te sl (fun x s1=>match x with
    | .see _=>False
    | y=>u E (s1.set i (some y))) E.xc
  rw [e];exact h
theorem an7 {i:Nat} {u:TDS} {E:EndsD} {x:D} {s s':DSt} (e:s.set i (some (.d x))=s') (h:u E s'):setK i u E (.d x) s:=by subst e;exact h
theorem ajT {i:Nat} {u:TDS} {E:EndsD} {x:OO} {s s':DSt} (e:s.set i (some (.own x))=s') (h:u E s'):setK i u E (.own x) s:=by subst e;exact h
theorem g2 {i j:Nat} {x y:D} {s s':DSt} {Q:DSt->Prop} (e:((s.set i (some (.d x))).set j (some (.d y)))=s') (h:Q s'):gConsD (gD i) (gConsD (gD j) gNilD) [x,y] s Q:=by subst e;exact h
structure Vl where
  q:Rat
  bare:Bool
inductive Itm where
  | tx (z:Str) | vl (x:Vl)
inductive Lf where
  | road (ride:Bool) (ly a b:Str) (v:Vl)
  | place (x a:Str) (v w:Vl)
  | same (a b:Str)
  | forget (a:Str)
  | cap (ly:Str) (v:Vl)
  | scale (ly:Str) (v:Vl)
  | turn
  | round (ly:Str)
def Lf.word:Lf->Str
  | .road r _ _ _ _=>if r then "ride" else "road"
  | .place ..=>"place"
  | .same ..=>"same"
  | .forget ..=>"forget"
  | .cap ..=>"cap"
  | .scale ..=>"scale"
  | .turn=>"turn"
  | .round ..=>"round"
def Lf.rest:Lf->List Itm
  | .road _ ly a b v=>[.tx ly,.tx a,.tx b,.vl v]
  | .place x a v w=>[.tx x,.tx a,.vl v,.vl w]
  | .same a b=>[.tx a,.tx b]
  | .forget a=>[.tx a]
  | .cap ly v=>[.tx ly,.vl v]
  | .scale ly v=>[.tx ly,.vl v]
  | .turn=>[]
  | .round ly=>[.tx ly]
section
variable {g:TDG} {tt:TDT} {te:TD} {vs:List Nat} {Q:DV->DSt->Prop}
end
def Lf.places:Lf->Prop
  | .place ..=>True
  | _=>False
end DL
namespace DL
end DL
namespace DL
open PySem PySem.Spec PyProof.Rows L2
section
variable {X:Cx} {W:WX} {o e:Expr} {to te:TD} {apos pos:Pos}
end
section
variable {K:PySem.W.Frag}
end
abbrev tl (x:Str):List Nat:=TL.tl x
theorem cxUpN {P:Program} {w:World}:StX.CXUp (L2N.CX P w):=by
  rintro outer s H s2 H2 E e s' un kp ho ⟨a,B,H',cls,d,ea,fl,hok,ub,na,os,ag,he⟩
  refine ⟨a,B,H',cls,d,ea,fl,hok,⟨fun b o q n hb=>ub.keep b o (kp b o q) (un.free b o q n (by simp)) hb,fun b o q hb=>ub.slot b o (kp b o q) hb,fun b o q n=>ub.free b o (kp b o q) (un.free b o q n (by simp)),
    fun b o q hb=>ub.there b o (kp b o q) hb,fun b xs q=>ub.tups b xs (un.tups b xs q),fun b o xs q=>ub.frzs b o xs (un.frzs b o xs q),fun b ps q=>?_⟩,na,os.trans ho,ag,he⟩
  obtain ⟨m1,e1⟩:=un.tbls b ps q
  obtain ⟨m2,e2⟩:=ub.tbls b _ e1
  exact ⟨m1++m2,by rw [e2,Array.append_assoc]⟩
theorem aiF {K:PySem.W.Frag} {G:Hp} {so:So} {H:Hp}:∀ {as bs:List DV} {vs:List V},VsOk K G so H vs (as++bs)->∃ v1 v2,vs=v1++v2/\VsOk K G so H v1 as/\VsOk K G so H v2 bs
  | [],_,vs,h=>⟨[],vs,rfl,.nil,h⟩
  | _::as,bs,_,.cons h n t=>by
    obtain ⟨v1,v2,e,r1,r2⟩:=aiF t
    exact ⟨_::v1,v2,by rw [e];rfl,.cons h n r1,r2⟩
theorem ajO {K:PySem.W.Frag} {G:Hp} {so:So} {H:Hp}:∀ {ds:List D} {vs:List V},VsOk K G so H vs (ds.map DV.d)->DAll K G vs ds
  | [],_,.nil=>.nil
  | _::ds,_,.cons h _ t=>.cons h (ajO t)
structure FnV (P:Program) (w:World) (K:PySem.W.Frag) (mg:Str->Option Value) (base:Heap) (k:Nat) (f:Addr) (sp:SpD):Prop where
  run:∀ (A:Around) (outer:List Env) (s:Shared) (H:Hp) (us:List Value) (vs:List V) (Q:VK) (E:XK),Room k A->A.guards=some []->Env0 P w K mg base A outer s H->Vals vs us->upSp K sp vs H Q E->
    codeAny (model P w) A (.call (.ref f) ⟨us,[]⟩) (CR (L2N.CX P w) outer P w H s Q E) s
theorem FnV.mono {P:Program} {w:World} {K:PySem.W.Frag} {mg:Str->Option Value} {base:Heap} {j k:Nat} {f:Addr} {sp:SpD} (F:FnV P w K mg base j f sp) (h:j<=k):FnV P w K mg base k f sp:=
  ⟨fun A outer s H us vs Q E hr=>F.run A outer s H us vs Q E (hr.mono h)⟩
def spV (n:Nat) (sp:SpD):SpD:=fun args Q E=>∃ (as:List DV) (ds:List D),args=as++ds.map DV.d/\as.length=n/\ds.length<=szl/\sp (as++[.d (.tup ds)]) Q E
section
variable {X:Cx} {W:WX} {k:Nat} {f C:Addr} {sp:SpD} {x m:Str} {p pos apos:Pos} {e o:Expr} {es:List Expr} {ta:TDA} {to:TD} {pl:Sem Bool}
theorem aj7 {pins:List (Addr × Obj)} {σ:L2.St} {H G:Hp} {so:So} {sl:DSt} {s:Shared} {Q:VK} {us:List Value} {vs:List V} {ds:List DV} {Q':DV->DSt->Prop} {E:XP} (F:FnV X.prog X.w X.K X.mg X.base k f sp) (hr:Room k X.A) (hg:X.A.guards=some []) (tk:L2N.Takes X W)
    (I:Inv X pins σ H s) (rep:Rep X.K G so σ H sl) (r:Vals vs us) (w:VsOk X.K G so H vs ds)
    (q:sp ds (fun v=>Q' v sl) fun cls fs=>E cls fs sl) (hq:∀ v H' G' dv sl',PostE X.K G so σ H sl v H' G' dv sl'->Q' dv sl'->Q v H') (hx:XOk X.K W G so σ H sl E) :
    wpAny (model X.prog X.w) X.A (call (.ref f) us []) (EP X pins σ Q) X.xe s:=by
  refine wpAny_call (codeAny_mono (F.run X.A X.stack s H us vs Q (fun cls d H'=>W cls d σ H') hr hg I.env0 r ⟨G,so,_,_,_,rep.h,w,q,fun v H' G' dv pv z=>hq v H' G' dv sl (pv.slots rep) z,fun cls d H' G' fs ph z1 z2=>?_⟩) fun r s' hz=>?_)
  · have pn:PostV X.K G so H .non H' G' (.d .non):=⟨ph.ex,ph.hrep,ph.keep,ph.frm,.non,fun _ _ e=>(nomatch e),fun _ e=>(nomatch e)⟩
    exact hx cls d H' G' fs sl (pn.slots rep).toPost z1 z2
  · cases r with
    | error e=>exact tk e s' (L2N.XE.of_call I (fun _ _ _ z=>z) hz)
    | ok fl=>
      cases fl with
      | ret u=>exact I.after hz
      | next=>exact False.elim hz
      | brk=>exact False.elim hz
      | cont=>exact False.elim hz
end
section
variable {n:Nat} {sp:SpD} {ta:TDA}
end
end DL
namespace DL
open PySem PySem.Spec PyProof.Rows L2 PySem.W
theorem ahZ {β:Type} (k:β->PyData) (a b c:β) (h1:dataLe false k a b=true) (h2:dataLe false k b c=true):dataLe false k a c=true:=by
  rw [dataLe_eq] at *
  simp only [cond_false,Bool.not_eq_true'] at *
  cases e:dataLt (k c) (k a) with
  | false=>rfl
  | true=>
    rcases lex_negTrans _ (keyToks (k b)) _ e with z | z
    · rw [show dataLt (k c) (k b)=true from z] at h2;cases h2
    · rw [show dataLt (k b) (k a)=true from z] at h1;cases h1
theorem ah0 {β:Type} (k:β->PyData) (a b:β):(dataLe false k a b || dataLe false k b a)=true:=by
  rw [dataLe_eq]
  simp only [cond_false]
  cases e:dataLt (k b) (k a) with
  | false=>rfl
  | true=>
    cases e2:dataLt (k a) (k b) with
    | false=>rfl
    | true=>
      have z:=lex_trans _ _ _ e e2
      rw [lex_irrefl] at z;cases z
def rSortedA (K:PySem.W.Frag):List V->Hp->VK->Prop:=fun vs H Q=>∃ (a:Addr) (xs:List (V × PyData)),vs=[V.ref a]/\SqL K H a (xs.map (·.1))/\(∀ x∈xs,Dp K H x.1 x.2)/\AllAlike (xs.map (·.2))/\Sortable (xs.map (·.2))/\(∀ x∈xs,x.2.depth<=60)/\
  ∀ p,H p=none->Q (.ref p) (upd H p (.lst ((xs.mergeSort (dataLe false (·.2))).map (·.1))))
theorem ahX:∀ {xs:List (V × PyData)} {us:List Value},Vals (xs.map (·.1)) us->EachIs (fun u (x:V × PyData)=>RelV x.1 u) us xs
  | [],_,.nil=>.nil
  | _::_,_,.cons h t=>.cons h (ahX t)
theorem ahl:∀ {xs:List (V × PyData)} {us:List Value},EachIs (fun u (x:V × PyData)=>RelV x.1 u) us xs->Vals (xs.map (·.1)) us
  | _,_,.nil=>.nil
  | _,_,.cons h t=>.cons h (ahl t)
theorem ak3 {α β:Type} {R S:α->β->Prop}:∀ {as:List α} {bs:List β},EachIs R as bs->(∀ a b,b∈bs->R a b->S a b)->EachIs S as bs
  | _,_,.nil,_=>.nil
  | _,_,.cons h t,f=>.cons (f _ _ (List.mem_cons_self ..) h) (ak3 t fun a b hb=>f a b (List.mem_cons_of_mem _ hb))
theorem ajI {X:Cx} (hu:X.A.units + 70 < cLine):CallR X (.builtin "sorted") (rSortedA X.K):=by
  intro pins s σ H vs us Q I r h
  obtain ⟨a,xs,rfl,hs,hd,hal,hk,hdp,q⟩:=h
  obtain ⟨its,rv,hl,hz⟩:=I.list hs
  rw [Vals.ref1 r]
  have e:=ahX rv
  refine sorted_data (enc:=fun x:V × PyData=>x.2) hl.isList e (ak3 e fun u x hx hr=>Dp.reads I _ _ _ (hd x hx) hr) hal hk (by have:=rv.length;rw [List.length_map] at this hz;exact hz) (fun b hb=>by have:=hdp b hb;omega) fun out hlen eo=>?_
  obtain ⟨ep,he'⟩:=PyProof.Rows.sortedAll_at s.heap its out.toArray
  have rv2:=ahl eo
  have hlen2:((xs.mergeSort (dataLe false fun x:V × PyData=>x.2)).map (·.1)).length<=sizeLine:=by
    rw [List.length_map,List.length_mergeSort]
    rw [List.length_map] at hz
    exact hz
  exact ⟨.ref _,upd H (s.heap.objs.size + 1) (.lst ((xs.mergeSort (dataLe false fun x:V × PyData=>x.2)).map (·.1))),I.laid (t':=s.toks) (fun _ _=>PyProof.Rows.sortedAll_old) (Nat.le_succ _) ⟨hlen2,out,ep,rv2,he'⟩,rfl,q _ (I.hok.fresh (Nat.le_succ _))⟩
@[irreducible] def sortAR:List DV->(DV->Prop)->Prop
  | [v],Q=>(match v.items with
    | some ds=>(match D.pyAll ds with
      | some ps=>AllAlike ps/\Sortable ps/\(∀ p∈ps,p.depth<=60)/\∀ zs:List (D × PyData),zs.Perm (ds.zip ps)->zs.Pairwise (fun x y=>dataLt y.2 x.2=false)->Q (.own (.lst (zs.map (·.1))))
      | none=>False)
    | none=>False)
  | _,_=>False
theorem amh:∀ {ds:List D} {ps:List PyData},D.pyAll ds=some ps->ds.length=ps.length
  | [],ps,h=>by rw [D.pyAll] at h;cases h;rfl
  | d::ds,ps,h=>by
    rw [D.pyAll] at h
    cases e1:d.py with
    | none=>rw [e1] at h;cases h
    | some p=>
      cases e2:D.pyAll ds with
      | none=>rw [e1,e2] at h;cases h
      | some qs=>rw [e1,e2] at h;cases h;rw [List.length_cons,List.length_cons,amh e2]
theorem amv {K:PySem.W.Frag} {H:Hp}:∀ {vs:List V} {ps:List PyData},DpAll K H vs ps->∀ x∈vs.zip ps,Dp K H x.1 x.2
  | _,_,.nil,x,hx=>by cases hx
  | _,_,.cons h t,x,hx=>by
    rw [List.zip_cons_cons] at hx
    rcases List.mem_cons.mp hx with rfl | hx
    · exact h
    · exact amv t x hx
theorem ak6 {K:PySem.W.Frag} {G:Hp}:∀ {vs:List V} {ds:List D} {ps:List PyData},DAll K G vs ds->∀ t∈vs.zip (ds.zip ps),DOk K G t.1 t.2.1
  | _,_,_,.nil,x,hx=>by cases hx
  | _,_,[],.cons h t,x,hx=>by rw [List.zip_nil_right,List.zip_nil_right] at hx;cases hx
  | _,_,_::_,.cons h t,x,hx=>by
    rw [List.zip_cons_cons,List.zip_cons_cons] at hx
    rcases List.mem_cons.mp hx with rfl | hx
    · exact h
    · exact ak6 t x hx
theorem ald {K:PySem.W.Frag} {G:Hp}:∀ {ts:List (V × D × PyData)},(∀ t∈ts,DOk K G t.1 t.2.1)->DAll K G (ts.map (·.1)) (ts.map ((·.1) ∘ (·.2)))
  | [],_=>.nil
  | t::ts,h=>.cons (h t (List.mem_cons_self ..)) (ald fun x hx=>h x (List.mem_cons_of_mem _ hx))
theorem ajX {K:PySem.W.Frag}:CallSem K (rSortedA K) sortAR:=by
  intro G so H xs dxs Q R h w q k
  unfold sortAR at q
  split at q
  · obtain ⟨v,rfl,w1,_⟩:=w.v1
    split at q
    · rename_i ds e
      obtain ⟨c,vs,rfl,g1,a1⟩:=VOk.list h w1 e
      split at q
      · rename_i ps ep
        obtain ⟨hal,hk,hdp,q⟩:=q
        have l1:vs.length=ds.length:=a1.length
        have l2:ds.length=ps.length:=amh ep
        have dp:=DAll.dp h.ex ds vs ps a1 ep
        have m1:(vs.zip ps).map (·.1)=vs:=List.map_fst_zip (by omega)
        have m2:(vs.zip ps).map (·.2)=ps:=List.map_snd_zip (by omega)
        have t1:(vs.zip (ds.zip ps)).map (fun t=>(t.1,t.2.2))=vs.zip ps:=by
          have e1:(ds.zip ps).map (·.2)=ps:=List.map_snd_zip (by omega)
          conv=>rhs;rw [<- e1]
          rw [List.zip_map_right]
          rfl
        have t2:(vs.zip (ds.zip ps)).map (·.2)=ds.zip ps:=List.map_snd_zip (by rw [List.length_zip];omega)
        obtain ⟨ts,ets⟩:∃ ts,ts=(vs.zip (ds.zip ps)).mergeSort (dataLe false fun t=>t.2.2):=⟨_,rfl⟩
        have em:(vs.zip ps).mergeSort (dataLe false fun x:V × PyData=>x.2)=ts.map (fun t=>(t.1,t.2.2)):=by
          rw [ets,<- t1,List.map_mergeSort]
          intro a _ b _;rfl
        have pm:ts.Perm (vs.zip (ds.zip ps)):=by rw [ets];exact List.mergeSort_perm _ _
        have pw:ts.Pairwise (fun x y=>dataLt y.2.2 x.2.2=false):=by
          have:=List.pairwise_mergeSort (le:=dataLe false fun t:V × D × PyData=>t.2.2) (fun a b c=>ahZ _ a b c) (fun a b=>ah0 _ a b) (vs.zip (ds.zip ps))
          rw [<- ets] at this
          refine this.imp fun {x y} hxy=>?_
          rw [dataLe_eq] at hxy
          simpa using hxy
        refine ⟨c,vs.zip ps,rfl,by rw [m1];exact SqL.of g1,fun x hx=>amv dp x hx,by rw [m2];exact hal,by rw [m2];exact hk,fun x hx=>hdp _ (List.of_mem_zip hx).2,fun p n=>?_⟩
        have ea:((vs.zip ps).mergeSort (dataLe false fun x:V × PyData=>x.2)).map (·.1)=ts.map (·.1):=by rw [em,List.map_map];rfl
        have z:=q (ts.map (·.2)) (by rw [<- t2];exact pm.map _) (List.pairwise_map.mpr pw)
        rw [List.map_map] at z
        rw [ea]
        exact k _ _ G _ (.list h n (ald fun t ht=>ak6 a1 t (pm.mem_iff.mp ht))) z
      · exact q.elim
    · exact q.elim
  · exact q.elim
end DL
namespace DL
open PySem PySem.Spec PyProof.Rows L2
def FirstAt (ns:List Int) (z:Int) (j:Nat):Prop:=ns[j]?=some z/\∀ m,m < j->ns[m]?≠some z
def dIdx (to te:TD):TD:=fun sl Q E=>to sl (fun x s0=>match pubV x with
  | .d (.lst ds)=>te s0 (fun y s1=>∃ (ns:List Int) (z:Int) (j:Nat),ds=ns.map D.int/\y=.d (.int z)/\FirstAt ns z j/\Q (.d (.int j)) s1) E
  | _=>False) E
theorem DAll.ints_of {K:PySem.W.Frag} {G:Hp}:∀ {vs:List V} {ns:List Int},DAll K G vs (ns.map D.int)->vs=ns.map V.int
  | _,[],.nil=>rfl
  | _,n::ns,.cons h t=>by cases h;rw [DAll.ints_of t];rfl
theorem ahV (ns:List Int):(ns.map V.int).all flatV=true:=by
  rw [List.all_map]
  exact List.all_eq_true.mpr fun _ _=>rfl
theorem FirstAt.eq {ns:List Int} {z:Int} {j:Nat} (h:FirstAt ns z j):(ns.map V.int)[j]?=some (.int z)/\∀ (m:Nat) (z':V),m < j->(ns.map V.int)[m]?=some z'->L2.eqV z' (.int z)=false:=by
  refine ⟨by rw [List.getElem?_map,h.1];rfl,fun m z' hm e=>?_⟩
  rw [List.getElem?_map] at e
  cases q:ns[m]? with
  | none=>rw [q] at e;cases e
  | some w=>
    rw [q] at e;cases e
    have:w≠z:=fun x=>h.2 m hm (by rw [q,x])
    show (w == z)=false
    exact beq_eq_false_iff_ne.mpr this
section
variable {X:Cx} {W:WX} {o e:Expr} {to te:TD} {apos pos:Pos}
theorem anO (ho:DE X W o to) (he:DE X W e te) (hs:starEach [e] X.env=(false,eval e X.env)::starEach [] X.env:=by rfl) (hbase:attributeBase o "index" X.env (eval o X.env)=eval o X.env:=by rfl)
    (hfew:((backTo pos (starEach [e] X.env)).all (fun x=>!x.1) && (backToKw pos (keywordEach [] X.env)).all (fun x=>x.1.isSome)
      && decide ([e].length + ([]:List Keyword).length + (if ([]:List Keyword).isEmpty then 0 else 1) < 30))=true:=by rfl)
    (hline:(apos.endLine == pos.line)=true:=by rfl) (hplain:(backTo pos (starEach [] X.env)).any (·.1)=false:=by rfl):DE X W (.Call (.Attribute o "index" apos) [e] [] pos) (dIdx to te):=by
  refine aa3 (pe_bm PySem.F.plainAttrs_list PySem.F.slot_list_index PySem.F.type_list_index mt_index ho (pa_cons he pa_nil hs) hbase hfew hline hs hplain) fun σ H R ⟨G,so,sl,Q,E,rep,q,hq,hx⟩=>?_
  refine ⟨G,so,sl,_,E,rep,q,fun x H1 G1 dx s1 p1 h1=>?_,hx⟩
  obtain ⟨G1',p1'⟩:=p1.pub
  split at h1
  · rename_i ds ed
    rw [ed] at p1'
    obtain ⟨a,vs,rfl,ha,da⟩:=VOk.list p1'.rep.h p1'.val (rfl:DV.items (.d (.lst ds))=some ds)
    refine ⟨.inl ⟨rfl,vs,SqL.of ha⟩,G1',so,s1,_,E,p1'.rep,h1,fun y H2 G2 dy s2 p2 h2=>?_,hx.step p1'.toPost⟩
    obtain ⟨ns,z,j,rfl,rfl,fa,h2⟩:=h2
    have wl:VOk X.K G2 so H2 (.ref a) (.d (.lst (ns.map D.int))):=p1'.over p2.toPost
    obtain ⟨a',vs',ea,ha',da'⟩:=VOk.list p2.rep.h wl (rfl:DV.items (.d (.lst (ns.map D.int)))=some _)
    cases ea
    have wy:=p2.val
    cases wy
    obtain ⟨f1,f2⟩:=fa.eq
    exact ⟨a,ns.map V.int,.int z,j,.int z,rfl,rfl,by rw [<- da'.ints_of];exact SqL.of ha',rfl,ahV ns,f1,by show (z == z)=true;exact beq_self_eq_true z,f2,
      hq _ H2 G2 _ s2 ((p1'.toPost.trans p2.toPost).thenV (.dat p2.rep.h (.int _))) h2⟩
  · exact h1.elim
end
end DL
set_option maxHeartbeats 4000000
namespace DL
open PySem PySem.Spec PyProof.Rows L2
section
variable {X:Cx} {W:WX} {elt tg iter:Expr} {ifs:List Expr} {scope:Scope} {own:List (Str × Nat)} {pos spos:Pos} {ti:TDI} {g:TDG} {tt:TDT} {te:TD} {ix:List Nat}
end
section
variable {K:PySem.W.Frag} {G G':Hp} {so:So} {σ:L2.St} {H H':Hp} {sl sl':DSt} {v:V} {dv:DV}
end
section
variable {X:Cx} {W:WX} {e a b c:Expr} {ta tb tc te:TD} {pos apos:Pos}
theorem am1 {st:Stmt} {t:TS} (h:PS X st t):PS X st (fun D σ H=>∃ d u,H d=some u/\Mut (some u)/\∀ od,t D σ (upd H d (.frz od u))):=by
  refine ⟨fun pins s σ H D I hw=>?_⟩
  obtain ⟨d,u,hd,mu,q⟩:=hw
  obtain ⟨od,I3⟩:=I.lock hd mu
  exact h.run pins s σ _ D I3 (q od)
def lockD:OO->Option D
  | .dk kvs=>some (.dk kvs)
  | .dt kvs=>some (.dt kvs)
  | _=>none
def dLockS (i:Nat) (t:TDS):TDS:=fun E sl=>∃ o d,sl[i]?=some (some (.own o))/\lockD o=some d/\t E (sl.set i (some (.d d)))
theorem anJ {st:Stmt} {t:TDS} {i:Nat} (h:DS X W st t):DS X W st (dLockS i t):=by
  refine adu (am1 h) fun D σ H ⟨G,so,sl,E,rep,⟨o,d,e,el,q⟩,ok⟩=>?_
  obtain ⟨v,e1,a,rfl,ga,sa,w⟩:=rep.slots i _ e
  have oa:Own sl σ a:=⟨i,_,e,e1⟩
  have hi:i < sl.length:=(List.getElem?_eq_some_iff.mp e).1
  obtain ⟨u,hu,mu,nt,dk⟩:∃ u,H a=some u/\Mut (some u)/\(∀ xs,u≠.tup xs)/\∀ od,DOk X.K (upd G a (.frz od u)) (.ref a) d:=by
    cases o with
    | lst _=>cases el
    | ins _ _ _=>cases el
    | dk kvs=>cases el;obtain ⟨vs,q1,fa⟩:=w;exact ⟨_,q1,trivial,(fun _ z=>by cases z),fun od=>.dk upd_same (fa.mono (Ex.new ga))⟩
    | dt kvs=>cases el;obtain ⟨vs,q1,fa⟩:=w;exact ⟨_,q1,trivial,(fun _ z=>by cases z),fun od=>.dt upd_same (fa.mono (Ex.new ga))⟩
  refine ⟨a,u,hu,mu,fun od=>?_⟩
  have others:∀ b,Own (sl.set i (some (.d d))) σ b->Own sl σ b/\b≠a:=fun b z=>by
    rcases own_set z with ⟨k1,k2⟩ | ⟨k1,j,ne,o',k2,k3⟩
    · exact ⟨k1,fun z=>k2 (z ▸ e1)⟩
    · exact ⟨k1,fun z=>ne (rep.sep j i o' o a k2 e (z ▸ k3) e1)⟩
  have hr:=aeE (u:=.frz od u) rep.h ga sa
  have key:∀ {b:Addr},b≠a->(upd H a (.frz od u)) b=H b:=fun z=>upd_ne z
  have rep':Rep X.K (upd G a (.frz od u)) so σ (upd H a (.frz od u)) (sl.set i (some (.d d))):=by
    refine ⟨hr,by rw [List.length_set];exact rep.len,fun j dv ej=>?_,fun j k o1 o2 b q1 q2 q3 q4=>?_,fun j o1 b q1 q2 z=>?_,fun j o1 z=>?_⟩
    · rcases get_set ej with ⟨rfl,z⟩ | ⟨ne,z⟩
      · cases z;exact ⟨_,e1,dk od⟩
      · obtain ⟨v,f1,f2⟩:=rep.slots j dv z
        refine ⟨v,f1,?_⟩
        cases dv with
        | d x=>exact DOk.mono (Ex.new ga) f2
        | src=>exact f2
        | own o1=>
          obtain ⟨b,rfl,g1,s1,k1⟩:=f2
          have nb:b≠a:=fun y=>ne (rep.sep j i o1 o a z e (y ▸ f1) e1)
          exact ⟨b,rfl,by rw [upd_ne nb];exact g1,s1,k1.keep (Ex.new ga) (key nb)⟩
        | bor o1=>
          obtain ⟨b,rfl,s1,k1⟩:=f2
          have nb:b≠a:=fun y=>rep.bor j o1 a z (y ▸ f1) oa
          exact ⟨b,rfl,s1,k1.keep (Ex.new ga) (key nb)⟩
        | see o1=>exact absurd z (rep.nse j o1)
        | mu y D gs=>exact SlOk.muU f2 (Ex.new ga) sa
        | gh _ _=>exact SlOk.ghU f2 (Ex.new ga) sa
    · rcases get_set q1 with ⟨_,z⟩ | ⟨_,z⟩
      · cases z
      · rcases get_set q2 with ⟨_,y⟩ | ⟨_,y⟩
        · cases y
        · exact rep.sep j k o1 o2 b z y q3 q4
    · rcases get_set q1 with ⟨_,y⟩ | ⟨_,y⟩
      · cases y
      · exact rep.bor j o1 b y q2 (others b z).1
    · rcases get_set z with ⟨_,y⟩ | ⟨_,y⟩
      · cases y
      · exact rep.nse j o1 y
  have ps:PostS X.K G so σ H sl σ (upd H a (.frz od u)) (upd G a (.frz od u)) (sl.set i (some (.d d))):=
    ⟨Ex.new ga,rep',fun b o1 eb sb nb=>by rw [key (fun z=>nb (by rw [z];exact oa))];exact eb,fun b n1 g1 sb nb=>by rw [upd_ne (fun z=>nb (by rw [z];exact oa))];exact g1,fun b _ _ nb z=>nb (others b z).1,rfl⟩
  exact ⟨_,so,_,E,rep',q,ok.step ps⟩
end
end DL
namespace DL
open PySem PySem.Spec PyProof.Rows L2 PySem.W PySem.Calls
section
variable {prog:Program} {w:World} {A:Around} {E:Value->Shared->Prop} {s:Shared} {a kS:Addr} {b:Bool} {vs:List Value} {keys:Array Value} {e e1:Nat} {P:PySem.Fin->Shared->Prop}
end
theorem PostH.trans {K:PySem.W.Frag} {G G1 G2:Hp} {so:So} {H H1 H2:Hp} (a:PostH K G so H H1 G1) (b:PostH K G1 so H1 H2 G2):PostH K G so H H2 G2:=
  ⟨a.ex.trans b.ex,b.hrep,fun c o e s=>b.keep c o (a.keep c o e s) s,fun c n g s=>b.frm c (by rw [akO a.keep n s.q];exact n) (a.frm c n g s) s⟩
theorem PostH.refl {K:PySem.W.Frag} {G:Hp} {so:So} {H:Hp} (h:HRep K G so H):PostH K G so H H G:=⟨Ex.refl G,h,fun _ _ e _=>e,fun _ _ g _=>g⟩
section
variable {X:Cx} {σ:L2.St} {A:Around} {pins:List (Addr × Obj)} {G H:Hp} {so:So} {s:Shared} {f:Value} {Gc:Hp->Prop} {kf:D->(PyData->Prop)->Prop} {a kS:Addr} {b:Bool} {us:List Value} {vs:List V} {ds:List D} {kz:List PyData} {E:Value->Shared->Prop} {P:PySem.Fin->Shared->Prop} {e1:Nat}
end
section
variable {X:Cx} {W:WX} {k:Nat} {f:Addr} {fd:FuncData} {ps:List Str} {sp:SpD}
end
section
variable {X:Cx} {W:WX} {e fe:Expr} {te:TD} {p kpos pos:Pos} {q:Addr} {kf:D->(PyData->Prop)->Prop}
end
def LamHO (q:Str) (params:Arguments) (body:Expr) (scope:Scope) (f c':Addr):HO:=.ext fun h=>∃ (doc pm ctv:Value),h.get? f=some (kdv_obj "<lambda>" q params (.expr body) scope [] .none doc pm c' ctv)
def LamG (q:Str) (params:Arguments) (body:Expr) (scope:Scope) (f:Addr) (G:Hp):Prop:=∃ c',G f=some (LamHO q params body scope f c')/\G c'=some (LamX.CodeO c' q)
theorem LamG.mono {q:Str} {params:Arguments} {body:Expr} {scope:Scope} {f:Addr} {G G1:Hp} (e:Ex G G1) (h:LamG q params body scope f G):LamG q params body scope f G1:=by
  obtain ⟨c',h1,h2⟩:=h
  exact ⟨c',e _ _ h1,e _ _ h2⟩
section
variable {X:Cx} {k:Nat} {q x:Str} {params:Arguments} {body:Expr} {scope:Scope} {te:TD}
end
section
variable {X:Cx} {pins:List (Addr × Obj)} {σ:L2.St} {H:Hp} {s:Shared} {c P:Addr} {ps:Array Value} {params:Arguments} {body:Expr} {scope:Scope} {pos:Pos} {Q E:Value->Shared->Prop}
end
section
variable {K:PySem.W.Frag} {G G1:Hp} {so:So} {σ:L2.St} {H H1 H2:Hp} {sl s1:DSt}
end
section
variable {X:Cx} {W:WX} {e:Expr} {te tl:TD} {p kpos pos lpos:Pos} {c:Addr} {k:Nat} {x:Str} {params:Arguments} {body:Expr} {scope:Scope}
end
end DL
namespace DL
open PySem PySem.Spec PyProof.Rows L2
section
variable {X:Cx} {W:WX} {a b:Expr} {ta tb:TD} {pos:Pos}
end
section
variable {β γ:Type}
end
section
variable {M:Model} {prog:Program} {w:World} {A:Around} {E:Value->Shared->Prop} {s:Shared} {K:PySem.W.Frag} {x C f:Addr} {ox:Obj} {od:Option Obj} {b:Value} {nm:String} {T:String}
end
section
variable {X:Cx} {W:WX} {k:Nat} {f C:Addr} {fd:FuncData} {ps:List Str} {sp:SpD} {a b:Expr} {ta tb:TD} {pos:Pos}
end
section
variable {K:PySem.W.Frag} {G H:Hp}
end
section
variable {X:Cx}
end
section
variable {prog:Program} {w:World} {κ:Type} [DecidableEq κ] {knd:HeapKind prog w κ} {A:Around} {E:Value->Shared->Prop} {s:Shared}
end
section
variable {X:Cx} {pins:List (Addr × Obj)} {σ:L2.St} {H:Hp} {s:Shared}
end
end DL
namespace DL
open PySem PySem.Spec PyProof.Rows L2 PySem.W
end DL
namespace DL
open PySem PySem.Spec PyProof.Rows L2
section
variable {prog:Program} {w:World} {A:Around} {E:Value->Shared->Prop} {s:Shared} {K:PySem.W.Frag} {x y C f:Addr} {ox oy:Obj} {od od':Option Obj} {nm:String}
end
section
variable {X:Cx} {W:WX} {k:Nat} {f C:Addr} {fd:FuncData} {ps:List Str} {sp:SpD} {a b:Expr} {ta tb:TD} {pos:Pos}
end
section
open PySem.W PySem.Calls PyProof.V DT
variable {prog:Program} {w:World} {A:Around} {E:Value->Shared->Prop} {s:Shared} {v d:Addr} {es:Array DictEntry} {ep:Nat}
end
section
variable {X:Cx}
end
section
variable {X:Cx} {W:WX}
end
section
variable {g:TDG} {tt:TDT} {te:TD} {vs:List Nat} {Q:DV->DSt->Prop}
end
section
variable {K:PySem.W.Frag} {X:Cx}
end
section
variable {α:Type} [DecidableEq α] (U:α->α->Bool)
def kStep (C:α->Bool) (acc:List α) (f:α):List α:=if decide (f∈acc)=false/\C f=true then acc++[f] else acc
abbrev kept (C:α->Bool) (P:List α):List α:=P.foldl (kStep C) []
variable {U}
end
def dMethV (sp:SpD) (C:Addr) (m:Str) (to:TD) (ta:TDA):TD:=fun sl Q E=>to sl (fun x s1=>match pubV x with
  | .d (.ins D fs)=>D=C/\fs.lookup m=none/\ta s1 (fun xs s2=>sp (.d (.ins C fs)::xs) (fun v=>Q v s2) fun cls fs=>E cls fs s2) E
  | _=>False) E
section
variable {X:Cx} {W:WX} {k:Nat} {f C:Addr} {sp:SpD} {m:Str} {pos apos:Pos} {o e:Expr} {es:List Expr} {ta:TDA} {to:TD} {pl:Sem Bool}
theorem adY (he:DE X W o to) (c:Cls X.K C) (hm:Meth X.K C m f) (F:FnV X.prog X.w X.K X.mg X.base k f sp) (hr:Room k X.A) (hgd:X.A.guards=some []) (tk:L2N.Takes X W) (ha:DA X W (e::es) ta)
    (hst:starEach (e::es) X.env=(false,eval e X.env)::starEach es X.env:=by rfl) (hpl:(backTo pos (starEach es X.env)).any (·.1)=false:=by rfl)
    (ht:eval (.Call (.Attribute o m apos) (e::es) [] pos) X.env=(do
      let ov <- eval o X.env
      standAt apos.atName
      let (f,first) <- holding [ov] (getMethod ov m pl)
      callWith pos f first (backTo pos (starEach (e::es) X.env)) (backToKw pos (keywordEach [] X.env))):=by rfl) :
    DE X W (.Call (.Attribute o m apos) (e::es) [] pos) (dMethV sp C m to ta):=by
  refine ⟨fun pins s σ H Q I ⟨G,so,sl,Q',E,rep,q,hq,hx⟩=>?_⟩
  refine PySem.W.methodCall_KW (pl:=pl) (thn (he.run pins s σ H (fun v H1=>∃ G1 s1 fs,PostE X.K G so σ H sl v H1 G1 (.d (.ins C fs)) s1/\fs.lookup m=none/\ta s1 (fun xs s2=>sp (.d (.ins C fs)::xs) (fun v=>Q' v s2) fun cls fs=>E cls fs s2) E) I
    ⟨G,so,sl,_,E,rep,q,fun v H1 G1 dv s1 p1 z=>?_,hx⟩) fun u s1 ⟨x,H1,I1,rx,G1,sl1,fs,p1,l,z⟩=>?_) ht
  · obtain ⟨G2,p2⟩:=p1.pub
    split at z
    · rename_i D fs ed
      obtain ⟨rfl,l,z⟩:=z
      exact ⟨G2,s1,fs,by rw [<- ed];exact p2,l,z⟩
    · exact z.elim
  · obtain ⟨a,dx,vs,ex,ea,fa⟩:=VOk.inst p1.rep.h p1.val rfl
    subst ex
    obtain rfl:u=Value.ref a:=rx
    refine getmeth_ok I1 ea c hm (fa.lookN l) ?_
    refine PySem.W.callWith_K (first:=[.ref a]) (h₀:=X.base) I.ok.mod.kin hm.kp (thn (ha.run pos pins s1 σ H1 (fun vs H2=>∃ G2 ds s2,Post X.K G1 so σ H1 sl1 H2 G2 s2/\VsOk X.K G2 so H2 vs ds/\sp (.d (.ins C fs)::ds) (fun v=>Q' v s2) fun cls fs=>E cls fs s2) I1
      ⟨G1,so,sl1,_,E,p1.rep,z,fun vs H2 G2 ds s2 p2 w z=>⟨G2,ds,s2,p2,w,z⟩,hx.step p1.toPost⟩) fun us s2 ⟨vs2,H2,I2,r,G2,ds,sl2,p2,w,z⟩=>⟨I2.kIn,?_⟩) hst hpl
    exact aj7 (us:=.ref a::us) (vs:=.ref a::vs2) (ds:=.d (.ins C fs)::ds) F hr hgd tk I2 p2.rep (.cons rfl r) (.cons (p1.over p2) (fun _ e=>(nomatch e)) w) z (fun v H' G' dv sl' pe z'=>hq v H' G' dv sl' ((p1.toPost.trans p2).thenE pe) z') (hx.step (p1.toPost.trans p2))
end
def anU (g:TDG) (tt:TDT) (tk tv:TD) (vs:List Nat) (Q:DV->DSt->Prop):List D->List (Key × D)->DSt->Prop
  | [],acc,sl=>Q (.own (.dk acc)) sl
  | d::r,acc,sl=>g d sl fun s1=>tt s1 (fun b s2=>Br b (tk s2 (fun x s3=>tv s3 (fun y s4=>match pubV x,pubV y with
    | .d kd,.d z=>(match keyOf kd with
      | some key=>acc.length < szl/\anU g tt tk tv vs Q r (putKD acc key z) (wipeD s4 vs)
      | none=>False)
    | _,_=>False) fun _ _ _=>False) fun _ _ _=>False) (anU g tt tk tv vs Q r acc (wipeD s2 vs))) fun _ _ _=>False
@[irreducible] def dDcL (g:TDG) (tt:TDT) (tk tv:TD) (vs:List Nat) (Q:DV->DSt->Prop) (ds:List D) (acc:List (Key × D)) (sl:DSt):Prop:=anU g tt tk tv vs Q ds acc sl
section
variable {g:TDG} {tt:TDT} {tk tv:TD} {vs:List Nat} {Q:DV->DSt->Prop}
theorem alc {acc:List (Key × D)} {sl:DSt}:dDcL g tt tk tv vs Q [] acc sl=Q (.own (.dk acc)) sl:=by unfold dDcL;rfl
theorem aji {d:D} {r:List D} {acc:List (Key × D)} {sl:DSt}:dDcL g tt tk tv vs Q (d::r) acc sl=g d sl fun s1=>tt s1 (fun b s2=>Br b (tk s2 (fun x s3=>tv s3 (fun y s4=>match pubV x,pubV y with
    | .d kd,.d z=>(match keyOf kd with
      | some key=>acc.length < szl/\dDcL g tt tk tv vs Q r (putKD acc key z) (wipeD s4 vs)
      | none=>False)
    | _,_=>False) fun _ _ _=>False) fun _ _ _=>False) (dDcL g tt tk tv vs Q r acc (wipeD s2 vs))) fun _ _ _=>False:=by unfold dDcL;rfl
end
def dDc (ti:TDI) (g:TDG) (tt:TDT) (tk tv:TD) (vs:List Nat):TD:=fun sl Q E=>ti sl (fun ds s1=>dDcL g tt tk tv vs Q ds [] (wipeD s1 vs)) E
theorem ans {K:PySem.W.Frag} {G:Hp} {v:V} {d:D} {k:Key} (w:DOk K G v d) (e:keyOf d=some k):v=kV k:=by
  cases w<;>cases e<;>rfl
section
variable {X:Cx} {W:WX} {kx vx tg iter:Expr} {ifs:List Expr} {scope:Scope} {own:List (Str × Nat)} {pos:Pos} {ti:TDI} {g:TDG} {tt:TDT} {tk tv:TD} {ix:List Nat}
theorem up_dc {K:PySem.W.Frag} {n:Nat} {g':TG} {σ:L2.St} {H:Hp} {R:VK} (vs:List Nat) (hl:σ.length=n) (sg:GSem K n ix g' g) (hix:∀ j,j∈ix->j∈vs) (h:up K W (dDc ti g tt tk tv vs) σ H R):tDc (upI K W ti) g' (upT K W0 tt) (up K W0 tk) (up K W0 tv) vs σ H R:=by
  obtain ⟨G,so,sl,Q,E,rep,q,hq,hx⟩:=h
  refine ⟨G,so,sl,_,E,rep,q,fun J H1 G1 ds s1 p0 it q1=>?_,hx⟩
  obtain ⟨ps,prot,goes,stops,yields⟩:=it
  intro C hC
  have nsC:so.Nt C:=p0.rep.h.there hC
  have rw1:=p0.rep.wipe vs
  have psC:∀ a∈ps,a≠C:=fun a ha z=>(prot a ha).1 (z ▸ hC)
  refine ⟨fun i m H'=>m=ds.length - i/\i<=ds.length/\∃ G' sl' us acc,Post K G1 so (L2.wipe σ vs) H1 (wipeD s1 vs) H' G' sl'/\H' C=some (.dK us)/\G' C=none/\FAll K G' us acc/\dDcL g tt tk tv vs Q (ds.drop i) acc sl',
    ⟨ds.length,by simp,Nat.zero_le _,G1,_,[],[],?_,upd_same,p0.rep.h.ex.free hC,.nil,q1⟩,?_⟩
  · have pv:=PostV.dct (K:=K) (G:=G1) (so:=so) (kvs:=[]) rw1.h hC .nil
    exact (pv.slots rw1).toPost
  rintro i m H' ⟨rfl,hi,G',sl',us,acc,t,hCl,gC,al,q2⟩
  have same:∀ a∈ps,H' a=H1 a:=fun a ha=>by
    obtain ⟨n1,s,w⟩:=prot a ha
    exact ace t.keep n1 s
  have noC:∀ {sl'':DSt} {σ'':L2.St},(∀ a,Own sl'' σ'' a->Own (wipeD s1 vs) (L2.wipe σ vs) a)->¬ Own sl'' σ'' C:=fun f z=>(p0.rep.nown (abI (f C z))).1 hC
  have borC:∀ (j:Nat) (o:OO),(wipeD s1 vs)[j]?=some (some (.bor o))->(L2.wipe σ vs)[j]?=some (some (.ref C))->False:=fun j o e1 e2=>by
    obtain ⟨v,f1,f2⟩:=rw1.slots j _ e1
    rw [e2] at f1;cases f1
    obtain ⟨b,z,_,k⟩:=f2
    cases z
    exact k.there hC
  by_cases hlt:i < ds.length
  · refine .inr ⟨goes i H' hlt same,fun H''=>∃ G'' sl'' us' acc',Post K G1 so (L2.wipe σ vs) H1 (wipeD s1 vs) H'' G'' sl''/\H'' C=some (.dK us')/\G'' C=none/\FAll K G'' us' acc'/\dDcL g tt tk tv vs Q (ds.drop (i + 1)) acc' sl'',
      fun H'' ⟨G'',sl'',us',acc',h1,h2,h3,h4,h5⟩=>⟨ds.length - (i + 1),by omega,rfl,hlt,G'',sl'',us',acc',h1,h2,h3,h4,h5⟩,fun x H2 y=>?_⟩
    obtain ⟨d,G2,ed,pv⟩:=yields i H' x H2 G' same t.ex t.rep.h y hlt
    have pe:=pv.slots t.rep
    have C2:H2 C=some (.dK us):=pe.keep C _ hCl nsC
    have g2:G2 C=none:=pe.frm C (by rw [hCl];simp) gC nsC (noC t.sub)
    rw [List.drop_eq_getElem_cons hlt] at q2
    have ed':ds[i]=d:=by rw [List.getElem?_eq_getElem hlt] at ed;exact Option.some.inj ed
    rw [ed',aji] at q2
    refine sg G2 so _ H2 sl' x d _ _ ((wipe_length σ vs).trans hl) pe.rep pe.val q2 fun σ3 sl3 t3 u3 q3=>?_
    have e3:L2.wipe σ3 vs=L2.wipe σ vs:=by
      rw [<- agy (σ:=σ) vs]
      exact ah4 t3.ln fun j hj=>(u3 j fun z=>hj (hix j z)).1
    have sub3:∀ a,Own (wipeD sl3 vs) (L2.wipe σ3 vs) a->Own (wipeD s1 vs) (L2.wipe σ vs) a:=fun a z=>by
      rw [e3] at z
      by_cases w:Own sl' (L2.wipe σ vs) a
      · exact t.sub a w
      · obtain ⟨j,o,z1,z2⟩:=z
        have z2':σ3[j]?=some (some (.ref a)):=by
          rw [<- e3] at z2;exact (wipe_some z2).1
        have ow3:Own sl3 σ3 a:=⟨j,o,(aak z1).1,z2'⟩
        obtain ⟨n1,g1,s1'⟩:=t3.rep.nown ow3
        exact absurd ow3 (t3.sub a n1 s1' w)
    have sub3':∀ a,Own sl3 σ3 a->Own sl' (L2.wipe σ vs) a:=fun a z=>by
      by_cases w:Own sl' (L2.wipe σ vs) a
      · exact w
      · obtain ⟨n1,g1,s1'⟩:=t3.rep.nown z
        exact absurd z (t3.sub a n1 s1' w)
    have bs3:∀ (j:Nat) (o:OO),sl3[j]?=some (some (.bor o))->j∉vs->∃ o',(wipeD s1 vs)[j]?=some (some (.bor o')):=fun j o e n=>by
      rw [(u3 j fun z=>n (hix j z)).2] at e
      exact t.bsub j o e
    refine ⟨e3,G2,so,sl3,_,fun _ _ _=>False,t3.rep,q3,fun b H4 G4 s4 p4 q4=>?_,fun _ _ _ _ _ _ _ _ z=>z⟩
    have C4:H4 C=some (.dK us):=p4.keep C _ C2 nsC
    have n3C:¬ Own sl3 σ3 C:=fun z=>noC t.sub (sub3' C z)
    have g4:G4 C=none:=p4.frm C (by rw [C2];simp) g2 nsC n3C
    have k4:∀ a o,H1 a=some o->so.Nt a->H4 a=some o:=fun a o e s=>p4.keep a o (pe.keep a o (t.keep a o e s) s) s
    have f4:∀ a,H1 a≠none->G1 a=none->so.Nt a->¬ Own (wipeD s1 vs) (L2.wipe σ vs) a->G4 a=none:=fun a n1 g1 s w=>by
      have n2:¬ Own sl' (L2.wipe σ vs) a:=fun z=>w (t.sub a z)
      have h':H' a≠none:=by rw [ace t.keep n1 s];exact n1
      have h2:H2 a≠none:=by rw [ace pe.keep h' s];exact h'
      exact p4.frm a h2 (pe.frm a h' (t.frm a n1 g1 s w) s n2) s fun z=>n2 (sub3' a z)
    have bs4:∀ (j:Nat) (o:OO),s4[j]?=some (some (.bor o))->j∉vs->∃ o',(wipeD s1 vs)[j]?=some (some (.bor o')):=fun j o e n=>by
      obtain ⟨o1,e1⟩:=p4.bsub j o e
      exact bs3 j o1 e1 n
    cases b with
    | false=>
      refine iteF ⟨G4,wipeD s4 vs,us,acc,⟨t.ex.trans (pe.ex.trans p4.ex),?_,k4,f4,fun a z=>?_,fun j o e=>bs4 j o (aak e).1 (aak e).2⟩,C4,g4,al.mono (pe.ex.trans p4.ex),(brf q4)⟩
      · have r:=p4.rep.wipe vs;rw [e3] at r;exact r
      · refine t.sub a (sub3' a (p4.sub a (abI (vs:=vs) ?_)))
        rw [e3];exact z
    | true=>
      refine iteT ⟨G4,so,s4,_,fun _ _ _=>False,p4.rep,(brt q4),fun ky H5k G5k dk s5k p5k' q5k=>?_,fun _ _ _ _ _ _ _ _ z=>z⟩
      obtain ⟨G5p,p5k⟩:=p5k'.pub
      refine ⟨G5p,so,s5k,_,fun _ _ _=>False,p5k.rep,q5k,fun y H5 G5 dy s5 p6' q5=>?_,fun _ _ _ _ _ _ _ _ z=>z⟩
      obtain ⟨G6,p6⟩:=p6'.pub
      have p5:=p5k.toPost.thenE p6
      have wv:=p5.val
      have wk:=p5k.val
      split at q5
      · rename_i kd yd ek ey
        rw [ey] at wv
        rw [ek] at wk
        split at q5
        · rename_i key eq
          have kk:ky=kV key:=ans (show DOk K G5p ky kd from wk) eq
          have n4C:¬ Own s4 σ3 C:=fun z=>n3C (p4.sub C z)
          have C5:H5 C=some (.dK us):=p5.keep C _ C4 nsC
          have g5:G6 C=none:=p5.frm C (by rw [C4];simp) g4 nsC n4C
          have k5:∀ a o,H1 a=some o->so.Nt a->H5 a=some o:=fun a o e s=>p5.keep a o (k4 a o e s) s
          have f5:∀ a,H1 a≠none->G1 a=none->so.Nt a->¬ Own (wipeD s1 vs) (L2.wipe σ vs) a->G6 a=none:=fun a n1 g1 s w=>by
            have n2:¬ Own sl' (L2.wipe σ vs) a:=fun z=>w (t.sub a z)
            have h4:H4 a≠none:=by rw [ace k4 n1 s];exact n1
            exact p5.frm a h4 (f4 a n1 g1 s w) s fun z=>n2 (sub3' a (p4.sub a z))
          have bs5:∀ (j:Nat) (o:OO),s5[j]?=some (some (.bor o))->j∉vs->∃ o',(wipeD s1 vs)[j]?=some (some (.bor o')):=fun j o e n=>by
            obtain ⟨o1,e1⟩:=p5.bsub j o e
            exact bs4 j o1 e1 n
          have al5:FAll K G6 us acc:=al.mono (pe.ex.trans (p4.ex.trans p5.ex))
          have lu:us.length=acc.length:=al5.len
          refine ⟨us,key,kk,C5,by rw [lu,<- acr];exact q5.1,G6,wipeD s5 vs,L2.putK us key y,putKD acc key yd,⟨t.ex.trans (pe.ex.trans (p4.ex.trans p5.ex)),?_,fun a o e s=>?_,f5,fun a z=>?_,fun j o e=>bs5 j o (aak e).1 (aak e).2⟩,upd_same,g5,al5.putK wv,q5.2⟩
          · have r:=p5.rep.wipe vs
            rw [e3] at r
            refine ⟨⟨fun a o e=>?_,fun a k e=>?_,r.h.ok,aeZ r.h.tp (by intro _ z;cases z)⟩,r.len,fun j dv e=>?_,r.sep,r.bor,r.nse⟩
            · rw [upd_ne (ne_of_none e g5)];exact r.h.ex a o e
            · exact (r.h.vol a k e).keep (Ex.refl _) (r.h.vol a k e).g (upd_ne fun z=>nsC (z ▸ ⟨k,e⟩))
            · obtain ⟨v,f1,f2⟩:=r.slots j dv e
              refine ⟨v,f1,?_⟩
              have key':∀ a:Addr,a≠C->(upd H5 C (.dK (L2.putK us key y))) a=H5 a:=fun a z=>upd_ne z
              cases dv with
              | d z=>exact f2
              | src=>exact f2
              | own o=>
                obtain ⟨a,r1,r2,r3,r4⟩:=f2
                subst r1
                have z:a≠C:=fun z=>by
                  subst z
                  exact noC (fun a z=>t.sub a (sub3' a (p4.sub a (p5.sub a (abI (vs:=vs) (by rw [e3];exact z)))))) ⟨j,o,e,f1⟩
                exact ⟨a,rfl,r2,r3,r4.keep (Ex.refl _) (key' a z)⟩
              | bor o=>
                obtain ⟨a,r1,r3,r4⟩:=f2
                subst r1
                have z:a≠C:=fun z=>by
                  subst z
                  obtain ⟨o1,z1⟩:=bs5 j o (aak e).1 (aak e).2
                  exact borC j o1 z1 f1
                exact ⟨a,rfl,r3,r4.keep (Ex.refl _) (key' a z)⟩
              | see o=>exact absurd e (r.nse j o)
              | mu y D gs=>exact SlOk.muU f2 (Ex.refl _) nsC
              | gh _ _=>exact SlOk.ghU f2 (Ex.refl _) nsC
          · rw [upd_ne (fun z=>by subst z;rw [hC] at e;cases e)];exact k5 a o e s
          · exact t.sub a (sub3' a (p4.sub a (p5.sub a (abI (vs:=vs) (by rw [e3];exact z)))))
        · exact q5.elim
      · exact q5.elim
  · have e:i=ds.length:=by omega
    subst e
    rw [List.drop_length,alc] at q2
    refine .inl ⟨stops H' same,hq _ H' G' _ sl' ?_ q2⟩
    have pu:=t.unwipe p0.rep
    refine (p0.thenE { pu with val:=⟨C,rfl,gC,nsC,us,hCl,al⟩,new:=fun a o _ z=>?_,sepv:=fun a o _ z w=>?_,nbs:=fun a o j o' _ z e1 e2=>?_ })
    · cases z;exact .inl hC
    · cases z;exact (p0.rep.nown (pu.sub _ w)).1 hC
    · cases z
      obtain ⟨o1,z1⟩:=t.bsub j o' e1
      have lkj:(L2.wipe σ vs)[j]?=some (some (.ref C)):=by rw [wipe_out (aak z1).2];exact e2
      exact borC j o1 z1 lkj
end
section
variable {X:Cx} {kx vx tg iter:Expr} {ifs:List Expr} {scope:Scope} {own:List (Str × Nat)} {pos spos py:Pos} {wi:TI} {g:TG} {tt:TT} {tk tv:TE} {i:Nat} {y:Str}
theorem alD (hc:X.calm=true) (hN:X.N.Nodup) (hy:X.N[i]?=some y) (hyl:X.env.scope.names.lookup y=some .local) (hsw:swapsWith (.DictComp kx vx [⟨tg,iter,ifs,0⟩] scope pos) (some (.Name y py)) spos.line X.env=pure true) (hi:PI X tg iter wi) (ok:BlkOk X.N X.env.scope scope own)
    (hg:∀ (s:Shared) (H:Hp) (C:Addr) (cl:List (Str × Addr)) (fp:List Addr),PG (X.blk s H scope (compEnvC scope cl C X.env) fp) tg g) (ht:∀ (s:Shared) (H:Hp) (C:Addr) (cl:List (Str × Addr)) (fp:List Addr),PTs (X.blk s H scope (compEnvC scope cl C X.env) fp) ifs tt)
    (hk:∀ (s:Shared) (H:Hp) (C:Addr) (cl:List (Str × Addr)) (fp:List Addr),PE (X.blk s H scope (compEnvC scope cl C X.env) fp) kx tk) (hv:∀ (s:Shared) (H:Hp) (C:Addr) (cl:List (Str × Addr)) (fp:List Addr),PE (X.blk s H scope (compEnvC scope cl C X.env) fp) vx tv)
    (hs:∀ x,foldedSetIterable iter X.env x=pure x:=by intro _;rfl) :
    PS X (.Assign [.Name y py] (.DictComp kx vx [⟨tg,iter,ifs,0⟩] scope pos) spos) (tAsg (tDc wi g tt tk tv (own.map (·.2))) (gName i)):=by
  refine ⟨fun pins s σ H D I h=>?_⟩
  rw [exec_Assign_Name_used _ _ _ _ hsw]
  refine wpAny_bind (wpAny_standAt (wpAny_bind ?_))
  show wpAny _ X.A (comprehension (.DictComp kx vx [⟨tg,iter,ifs,0⟩] scope pos) scope X.env (firstIterPos [⟨tg,iter,ifs,0⟩] pos) newDict false (eval iter X.env) (some (assign (.Name y py) X.env)) >>= fun _=>_) _ _ s
  replace h:tDc wi g tt tk tv (own.map (·.2)) σ H (fun x H1=>gName i x σ H1 D.nx):=h
  refine wpAny_bind (thn (dc_core (Qf:=fun _ s1=>SP X pins D .next s1) hc hN I hi ok hg ht hk hv hs h fun L C s1 m H1 I1 q hn f=>?_) fun _ s1 hq=>wpAny_pure (wpAny_pure hq))
  show wpAny _ _ (assign (.Name y py) X.env (.ref L)) _ _ _
  refine wpAny_assign_Name (store_ok2 (v:=V.ref L) I1 hN hy (.inl hyl) rfl (fun s2 I2 ⟨a,sb,ha⟩=>?_) (.inr hyl))
  obtain ⟨f0,f1,f2,f3,f4,f5⟩:=f
  have ne:C≠a:=ha.elim (fun z=>by rw [z];exact f1) fun z e=>f4 y a z e.symm
  exact ⟨m,hn.sameBut sb ne,fun h3 sb3=>⟨_,H1,I2.turned (t':=s2.toks) (fun b o nb e=>(sb3.2 b nb).trans e) f0 f1 f3 f4 f5,q⟩⟩
end
section
variable {X:Cx} {W:WX} {kx vx tg iter:Expr} {ifs:List Expr} {scope:Scope} {own:List (Str × Nat)} {pos spos:Pos} {ti:TDI} {g:TDG} {tt:TDT} {tk tv:TD} {ix:List Nat}
theorem alZ {g':TG} {i:Nat} {y:Str} {py:Pos} (hc:X.calm=true) (hN:X.N.Nodup) (hy:X.N[i]?=some y) (hyl:X.env.scope.names.lookup y=some .local) (hsw:swapsWith (.DictComp kx vx [⟨tg,iter,ifs,0⟩] scope pos) (some (.Name y py)) spos.line X.env=pure true)
    (hi:DI X W tg iter ti) (ok:BlkOk X.N X.env.scope scope own)
    (hg:∀ s H C cl fp,DG (X.blk s H scope (compEnvC scope cl C X.env) fp) ix tg g' g) (ht:∀ s H C cl fp,DTs (X.blk s H scope (compEnvC scope cl C X.env) fp) W0 ifs tt)
    (hk:∀ s H C cl fp,DE (X.blk s H scope (compEnvC scope cl C X.env) fp) W0 kx tk) (hv:∀ s H C cl fp,DE (X.blk s H scope (compEnvC scope cl C X.env) fp) W0 vx tv) (hix:∀ j,j∈ix->j∈own.map (·.2):=by decide) (hs:∀ x,foldedSetIterable iter X.env x=pure x:=by intro _;rfl) :
    DS X W (.Assign [.Name y py] (.DictComp kx vx [⟨tg,iter,ifs,0⟩] scope pos) spos) (dSet (dDc ti g tt tk tv (own.map (·.2))) i):=by
  have b:=alD (tt:=upT X.K W0 tt) (tk:=up X.K W0 tk) (tv:=up X.K W0 tv) (pos:=pos) (spos:=spos) (py:=py) hc hN hy hyl hsw hi ok (fun s H C cl fp=>(hg s H C cl fp).pg) ht hk hv hs
  refine ⟨fun pins s σ H D I q=>b.run pins s σ H D I ?_⟩
  have q2:=ajP (K:=X.K) (W:=W) (te:=dDc ti g tt tk tv (own.map (·.2))) (i:=i) (D:=D) (σ:=σ) (H:=H) (fun _=>by rw [I.len];exact (List.getElem?_eq_some_iff.mp hy).1) q
  exact up_dc _ I.len (hg s H 0 [] []).sem hix q2
theorem alr {gs:List Comprehension} {py:Pos} {y:Str} {l:Nat} {env:Env} (hk:env.scope.kind=.function) (hy:env.scope.names.lookup y=some .local) (hl:(py.line == pos.line)=true) (ha:(scope.names.any fun (n,k)=>n == y && (k == .local || k == .cell))=false):swapsWith (.DictComp kx vx gs scope pos) (some (.Name y py)) l env=pure true:=by
  have e1:env.kindOf y=some .local:=hy
  have e2:env.blockKind=.function:=by unfold Env.blockKind;rw [hk];rfl
  unfold swapsWith
  simp only [e2,e1,ha,Expr.pos,hl]
  rfl
end
section
variable {X:Cx} {W:WX} {a b:Expr} {ta tb:TD} {pos:Pos}
end
section
variable {P:Program} {w:World} {A:Around} {E:Value->Shared->Prop} {s:Shared}
abbrev mh (P:Program) (w:World) (k:List Key):Int:=tupleKeyHash (mixKind P w) k
def rowsM (P:Program) (w:World) (L:List (Addr × List Key)):List (Int × Value):=L.map fun p=>(mh P w p.2,Value.ref p.1)
def hsM (P:Program) (w:World) (L:List (Addr × List Key)):List Int:=L.map fun p=>mh P w p.2
structure SetM (P:Program) (w:World) (h:Heap) (a:Addr) (L:List (Addr × List Key)) (es:Array (Int × Value)) (ep:Nat) (t:SetTable):Prop where
  ob:∃ o,h.get? a=some o/\o.ExactSet/\o.data=.set es ep t
  rows:es.toList=rowsM P w L
  tab:L2.TabOk t (hsM P w L)
  nd:(L.map (·.2)).Nodup
  led:w.params.followText "set-order"=true\/t.led=true
  room:L.length * 5 < t.mask * 3
  few:L.length < 64
theorem aj8 {es:Array (Int × Value)} {L:List (Addr × List Key)} (h:es.toList=rowsM P w L):es.size=L.length:=by
  have z:=congrArg List.length h
  rw [Array.length_toList] at z
  rw [z,rowsM,List.length_map]
variable {a:Addr} {L:List (Addr × List Key)} {es:Array (Int × Value)} {ep:Nat} {t:SetTable} {h:Heap}
theorem SetM.size (R:SetM P w h a L es ep t):es.size=L.length:=aj8 R.rows
theorem SetM.keep {h':Heap} (R:SetM P w h a L es ep t) (k:∀ o,h.get? a=some o->h'.get? a=some o):SetM P w h' a L es ep t:=by
  obtain ⟨o,ho,r⟩:=R.ob
  exact ⟨⟨o,k o ho,r⟩,R.rows,R.tab,R.nd,R.led,R.room,R.few⟩
end
section
variable {X:Cx}
end
section
variable {X:Cx} {W:WX} {e:Expr} {te:TD} {tl th:TDO} {pos p2:Pos} {lo hi:Option Expr} {K:PySem.W.Frag}
end
section
variable {g:TDG} {tt:TDT} {te:TD} {vs:List Nat} {F:List (List Key)->DSt->Prop}
end
section
variable {X:Cx} {W:WX} {elt tg iter:Expr} {ifs:List Expr} {scope:Scope} {own:List (Str × Nat)} {pos p lpos:Pos} {ti:TDI} {g:TDG} {tt:TDT} {te:TD} {ix:List Nat}
end
section
variable {g:TDG} {tt:TDT} {te:TD} {vs:List Nat} {F:List (List Key)->DSt->Prop}
end
section
variable {prog:Program} {w:World} {A:Around} {R:Result->Shared->Prop} {s:Shared} {elt t i:Expr} {ifs:List Expr} {gens:List Comprehension} {scope:Scope} {pos:Pos} {it acc:Value} {env:Env} {d:Nat}
end
def Ends (Y:Cx) (pins:List (Addr × Obj)) (σ:L2.St) (vs:List Nat) (Nx:Hp->Prop) (F:Shared->Prop):Prop:=∀ (σ':L2.St) (s':Shared) (H':Hp),Inv Y pins σ' H' s'->σ'.length=σ.length->(∀ (j:Nat) v,(wipe σ vs)[j]?=some (some v)->σ'[j]?=some (some v))->Nx H'->F s'
section
variable {Y:Cx} {elt:Expr} {gens:List Comprehension} {scope:Scope} {pos:Pos} {acc:Value}
end
section
variable {X:Cx}
end
section
variable {K:PySem.W.Frag} {G H:Hp} {so:So} {σ:L2.St} {sl:DSt}
end
section
variable {X:Cx} {tg e:Expr} {te:TD}
end
abbrev DBody:=(List D->DSt->Prop)->List D->DSt->Prop
section
variable {body:DBody} {g:TDG} {tt:TDT} {vs:List Nat} {F:List D->DSt->Prop} {acc:List D} {sl:DSt}
end
structure ClX where
  tg:Expr
  iter:Expr
  ifs:List Expr
  ti:TDI
  g':TG
  g:TDG
  tt:TDT
  vs:List Nat
  ix:List Nat
structure CSt (K:PySem.W.Frag) (C:Addr) (n:Nat) (G:Hp) (so:So) (σ:L2.St) (H:Hp) (sl:DSt) (us:List V) (acc:List D):Prop where
  rep:Rep K G so σ H sl
  hC:H C=some (.lst us)
  gC:G C=none
  nt:so.Nt C
  no:¬ Own sl σ C
  al:DAll K G us acc
  nb:∀ (j:Nat) (o:OO),sl[j]?=some (some (.bor o))->σ[j]?=some (some (.ref C))->False
  ln:σ.length=n
structure CR (C:Addr) (so:So) (G:Hp) (σ:L2.St) (H:Hp) (sl:DSt) (G':Hp) (σ':L2.St) (H':Hp) (sl':DSt):Prop where
  ex:Ex G G'
  keep:∀ a o,a≠C->H a=some o->so.Nt a->H' a=some o
  frm:∀ a,H a≠none->G a=none->so.Nt a->¬ Own sl σ a->G' a=none
  sub:∀ a,Own sl' σ' a->Own sl σ a
  bs:∀ (j:Nat) (o:OO),sl'[j]?=some (some (.bor o))->∃ o',sl[j]?=some (some (.bor o'))
section
variable {K:PySem.W.Frag} {C:Addr} {n:Nat} {G G' G2:Hp} {so:So} {σ σ' σ2:L2.St} {H H' H2:Hp} {sl sl' sl2:DSt} {us:List V} {acc:List D}
theorem CR.refl:CR C so G σ H sl G σ H sl:=⟨Ex.refl _,fun _ _ _ e _=>e,fun _ _ g _ _=>g,fun _ z=>z,fun _ o e=>⟨o,e⟩⟩
theorem CR.trans (hC:G' C=none->G2 C=none) (a:CR C so G σ H sl G' σ' H' sl') (b:CR C so G' σ' H' sl' G2 σ2 H2 sl2):CR C so G σ H sl G2 σ2 H2 sl2 where
  ex:=a.ex.trans b.ex
  keep:=fun x o nx e s=>b.keep x o nx (a.keep x o nx e s) s
  frm:=fun x n1 g1 s w=>by
    have g':=a.frm x n1 g1 s w
    by_cases z:x=C
    · subst z;exact hC g'
    · obtain ⟨o,e⟩:=Option.ne_none_iff_exists'.mp n1
      exact b.frm x (by rw [a.keep x o z e s];simp) g' s fun q=>w (a.sub x q)
  sub:=fun x z=>a.sub x (b.sub x z)
  bs:=fun j o e=>let ⟨o1,e1⟩:=b.bs j o e;a.bs j o1 e1
theorem CR.wipe (vs:List Nat):CR C so G σ H sl G (L2.wipe σ vs) H (wipeD sl vs):=⟨Ex.refl _,fun _ _ _ e _=>e,fun _ _ g _ _=>g,fun _ z=>abI z,fun _ o e=>⟨o,(aak e).1⟩⟩
theorem CSt.wipe (c:CSt K C n G so σ H sl us acc) (vs:List Nat):CSt K C n G so (L2.wipe σ vs) H (wipeD sl vs) us acc where
  rep:=c.rep.wipe vs
  hC:=c.hC
  gC:=c.gC
  nt:=c.nt
  no:=fun z=>c.no (abI z)
  al:=c.al
  nb:=fun j o e1 e2=>c.nb j o (aak e1).1 (wipe_some e2).1
  ln:=(wipe_length σ vs).trans c.ln
end
section
variable {K:PySem.W.Frag} {n:Nat} {C:Addr}
end
section
variable {X:Cx} {W:WX} {elt tg iter:Expr} {ifs:List Expr} {scope:Scope} {own:List (Str × Nat)} {pos:Pos} {ti:TDI} {g':TG} {g:TDG} {tt:TDT} {te:TD} {ix:List Nat} {r:List ClX}
end
section
variable {X:Cx} {W:WX} {elt tg iter tg1 iter1 tg2 iter2:Expr} {ifs ifs1 ifs2:List Expr} {scope:Scope} {own:List (Str × Nat)} {pos:Pos} {ti ti1 ti2:TDI} {g' g1' g2':TG} {g g1 g2:TDG} {tt tt1 tt2:TDT} {te:TD} {ix ix1 ix2:List Nat}
end
section
variable {X:Cx} {W:WX} {a b:Expr} {ta tb:TD} {i j:Nat} {x y:Str} {pos:Pos}
end
section
variable {prog:Program} {w:World} {A:Around} {R:Result->Shared->Prop} {s:Shared} {elt t i:Expr} {ifs:List Expr} {gens:List Comprehension} {scope:Scope} {pos:Pos} {it acc:Value} {env:Env} {d:Nat}
end
section
variable {Y:Cx} {elt:Expr} {gens:List Comprehension} {scope:Scope} {pos:Pos} {acc:Value}
end
section
variable {X:Cx}
end
end DL
namespace DL
open PySem PySem.Spec PyProof.Rows L2 PySem.W
section
variable {X:Cx}
end
end DL
namespace DL
open PySem PySem.Spec PyProof.Rows L2
abbrev SG:=Hp->HO->List D->Prop
structure CG (S:SG) (K:PySem.W.Frag) (C:Addr) (n:Nat) (G:Hp) (so:So) (σ:L2.St) (H:Hp) (sl:DSt) (acc:List D):Prop where
  rep:Rep K G so σ H sl
  ho:∃ o,H C=some o/\S G o acc
  gC:G C=none
  nt:so.Nt C
  no:¬ Own sl σ C
  nb:∀ (j:Nat) (o:OO),sl[j]?=some (some (.bor o))->σ[j]?=some (some (.ref C))->False
  ln:σ.length=n
section
variable {S:SG} {K:PySem.W.Frag} {C:Addr} {n:Nat} {G G' G2:Hp} {so:So} {σ σ' σ2:L2.St} {H H' H2:Hp} {sl sl' sl2:DSt} {us:List V} {acc:List D}
theorem CG.wipe (c:CG S K C n G so σ H sl acc) (vs:List Nat):CG S K C n G so (L2.wipe σ vs) H (wipeD sl vs) acc where
  rep:=c.rep.wipe vs
  ho:=c.ho
  gC:=c.gC
  nt:=c.nt
  no:=fun z=>c.no (abI z)
  nb:=fun j o e1 e2=>c.nb j o (aak e1).1 (wipe_some e2).1
  ln:=(wipe_length σ vs).trans c.ln
end
section
variable {K:PySem.W.Frag} {n:Nat} {C:Addr}
end
section
variable {X:Cx} {W:WX} {elt tg iter:Expr} {ifs:List Expr} {scope:Scope} {own:List (Str × Nat)} {p pos cpos:Pos} {ti:TDI} {g':TG} {g:TDG} {tt:TDT} {te:TD} {ix:List Nat} {r:List ClX}
end
end DL
namespace DL
open PySem PySem.Spec PySem.Calls PyProof.Rows L2 PySem.W
section
variable {prog:Program} {w:World} {A:Around} {E:Value->Shared->Prop} {s:Shared}
end
section
variable {X:Cx} {e1 e2:Expr} {p2 pos:Pos} {k:Nat} {t:TGs}
end
section
variable {X:Cx} {W:WX} {e:Expr} {te:TD} {i j:Nat} {x y:Str} {pos:Pos}
end
end DL
namespace DL
open PySem PySem.Spec PyProof.Rows L2
def ZSt (S z TI TO i1 i2 l1 l2:Addr) (xs ys:Array Value) (i:Nat) (h:Heap):Prop:=
  IsPair h TI (.ref i1) (.ref i2)/\h.IsListIter i1 l1 i/\h.IsListIter i2 l2 i/\h.IsList l1 xs/\h.IsList l2 ys/\
    ((IsZip h z TI TO .none/\∃ a b,IsPair h TO a b)\/∃ T f oT,IsZipHeld h z TI TO T f/\h.get? T=some oT/\T≠z/\T≠i1/\T≠i2/\T≠S)
theorem ZSt.keep {S z TI TO i1 i2 l1 l2:Addr} {xs ys:Array Value} {i:Nat} {h h':Heap} (st:ZSt S z TI TO i1 i2 l1 l2 xs ys i h) (off:S∉[z,TI,TO,i1,i2,l1,l2]) (k:∀ b o,b≠S->h.get? b=some o->h'.get? b=some o):ZSt S z TI TO i1 i2 l1 l2 xs ys i h':=by
  simp only [List.mem_cons,List.not_mem_nil,or_false,not_or] at off
  obtain ⟨dz,dTI,dTO,di1,di2,dl1,dl2⟩:=off
  obtain ⟨hTI,h1,h2,hl1,hl2,hz⟩:=st
  refine ⟨k _ _ (Ne.symm dTI) hTI,h1.at fun o e=>k _ o (Ne.symm di1) e,h2.at fun o e=>k _ o (Ne.symm di2) e,hl1.at fun o e=>k _ o (Ne.symm dl1) e,hl2.at fun o e=>k _ o (Ne.symm dl2) e,?_⟩
  rcases hz with ⟨hz,a,b,hTO⟩ | ⟨T,f,oT,hz,hT,r1,r2,r3,r4⟩
  · exact .inl ⟨k _ _ (Ne.symm dz) hz,a,b,k _ _ (Ne.symm dTO) hTO⟩
  · exact .inr ⟨T,f,oT,k _ _ (Ne.symm dz) hz,k _ _ r4 hT,r1,r2,r3,r4⟩
section
variable {prog:Program} {w:World} {A:Around} {E:Value->Shared->Prop} {S z TI TO i1 i2 l1 l2:Addr} {xs ys:Array Value} {R:Result->Shared->Prop}
end
section
variable {X:Cx} {pins:List (Addr × Obj)} {σ:L2.St} {H:Hp} {s:Shared}
end
section
variable {X:Cx} {W:WX}
end
section
variable {X:Cx} {W:WX} {o key value:Expr} {tk te:TD} {pos pos':Pos} {i:Nat}
end
section
variable {X:Cx} {W:WX} {elt tg iter tg1 iter1:Expr} {ifs ifs1:List Expr} {scope:Scope} {own:List (Str × Nat)} {p pos cpos:Pos} {ti ti1:TDI} {g' g1':TG} {g g1:TDG} {tt tt1:TDT} {te:TD} {ix ix1:List Nat}
end
section
variable {X:Cx} {W:WX} {pos:Pos} {i j l:Nat} {x y z:Str} {a b c:Expr} {ta:TDA}
end
section
variable {X:Cx} {x:Str} {kvs:List (Str × Str)}
end
section
variable {prog:Program} {w:World} {K:Type} [DecidableEq K] {knd:KeyKind prog w K} {A:Around} {E:Value->Shared->Prop} {s:Shared}
end
section
variable {K:PySem.W.Frag} {G G1:Hp} {so:So} {σ:L2.St} {H H1:Hp} {sl s1:DSt} {p:Addr} {o:HO}
end
section
variable {X:Cx} {W:WX} {kx vx tg iter:Expr} {ifs:List Expr} {scope:Scope} {own:List (Str × Nat)} {pos:Pos} {ti:TDI} {g:TDG} {tt:TDT} {tk tv:TD} {ix:List Nat}
end
section
variable {X:Cx} {pins:List (Addr × Obj)} {σ:L2.St} {H:Hp} {s:Shared}
end
end DL
set_option maxHeartbeats 2000000
namespace DL
open PySem PySem.Spec PyProof.Rows L2
end DL
set_option maxHeartbeats 4000000
namespace DL
open PySem PySem.Spec PyProof.Rows L2
section
variable {X:Cx} {W:WX} {e:Expr} {te:TD} {i j:Nat} {x y:Str} {pos:Pos}
end
abbrev SpM:=List DV->List (Str × D)->(DV->List (Str × D)->Prop)->(Value->List (Str × D)->List (Str × D)->Prop)->Prop
def noMu:DSt->Bool
  | []=>true
  | some (.mu _ _ _)::_=>false
  | some (.gh _ _)::_=>false
  | _::r=>noMu r
theorem aiY:∀ {sl:DSt} {j:Nat} {y D:Addr} {gs:List (Str × DL.D)},noMu sl=true->sl[j]?≠some (some (.mu y D gs))
  | [],j,_,_,_,_,e=>by simp at e
  | z::r,0,y,D,gs,h,e=>by
    simp at e;subst e;cases h
  | z::r,j + 1,y,D,gs,h,e=>by
    refine aiY (sl:=r) ?_ (by simpa using e)
    unfold noMu at h
    split at h
    · rename_i q;cases q
    · cases h
    · cases h
    · rename_i q;cases q;exact h
theorem ahO:∀ {sl:DSt} {j:Nat} {y:Addr} {g:GR},noMu sl=true->sl[j]?≠some (some (.gh y g))
  | [],j,_,_,_,e=>by simp at e
  | z::r,0,y,g,h,e=>by
    simp at e;subst e;cases h
  | z::r,j + 1,y,g,h,e=>by
    refine ahO (sl:=r) ?_ (by simpa using e)
    unfold noMu at h
    split at h
    · rename_i q;cases q
    · cases h
    · cases h
    · rename_i q;cases q;exact h
section
variable {K:PySem.W.Frag} {G G' H H':Hp} {so:So} {x C:Addr} {v:V} {dv:DV} {fs fs':List (Str × D)}
def MuOk (K:PySem.W.Frag) (G H:Hp) (x C:Addr) (fs:List (Str × D)):Prop:=∃ dx vs,H x=some (.ins C dx vs)/\FAll K G vs fs
abbrev soM (so:So) (x C:Addr):So:=(x,Kd.mt C)::so.drop
structure PostMH (K:PySem.W.Frag) (G:Hp) (so:So) (H:Hp) (x C:Addr) (H' G':Hp) (fs':List (Str × D)):Prop where
  ex:Ex G G'
  hrep:HRep K G' (soM so x C) H'
  keep:∀ a o,H a=some o->so.drop.Nt a->a≠x->H' a=some o
  frm:∀ a,H a≠none->G a=none->so.drop.Nt a->a≠x->G' a=none
  self:MuOk K G' H' x C fs'
structure PostM (K:PySem.W.Frag) (G:Hp) (so:So) (H:Hp) (x C:Addr) (v:V) (H' G':Hp) (dv:DV) (fs':List (Str × D)):Prop extends PostMH K G so H x C H' G' fs' where
  val:VOk K G' (soM so x C) H' v dv
  new:∀ a o,dv=.own o->v=.ref a->H a=none
  nob:∀ o,dv≠.bor o
  ns:∀ o,dv≠.see o
def upM (K:PySem.W.Frag) (C:Addr) (sp:SpM):Sp:=fun vs H Q E=>∃ G so x vs' fs args QD ED,vs=.ref x::vs'/\HRep K G (soM so x C) H/\so.drop.Nt x/\MuOk K G H x C fs/\VsOk K G (soM so x C) H vs' args/\sp args fs QD ED/\
  (∀ v H' G' dv fs',PostM K G so H x C v H' G' dv fs'->QD dv fs'->Q v H')/\(∀ cls d H' G' efs fs',PostMH K G so H x C H' G' fs'->XdOk K G' H' d efs->ED cls efs fs'->E cls d H')
end
section
variable {K:PySem.W.Frag} {W:WX} {G G' H H':Hp} {so:So} {σ:L2.St} {sl:DSt} {x C:Addr} {v:V} {dv:DV} {fs fs':List (Str × D)} {i:Nat}
end
section
variable {X:Cx} {W:WX} {k n:Nat} {f C:Addr} {fd:FuncData} {ps ks:List Str} {sp:SpM} {sel:List Sel} {m nm:Str} {p pos apos kpos:Pos} {o e:Expr} {es:List Expr} {ta:TDA} {te:TD} {pl:Sem Bool} {i:Nat}
end
section
variable {X:Cx} {W:WX} {k n:Nat} {f C:Addr} {fd:FuncData} {ps ks:List Str} {sp:SpI} {sel:List Sel} {x nm:Str} {p pos kpos:Pos} {e:Expr} {es:List Expr} {kws:List Keyword} {ta tk tk':TDA} {te:TD}
end
section
variable {X:Cx} {W:WX} {k n:Nat} {f C:Addr} {fd:FuncData} {ps ks:List Str} {sp:SpM} {sel:List Sel} {m nm:Str} {p pos apos kpos:Pos} {o e:Expr} {es:List Expr} {ta:TDA} {te:TD} {pl:Sem Bool} {i:Nat}
end
section
variable {X:Cx} {W:WX} {x:Str} {c:Value} {body suite:List Stmt} {b0:Stmt} {np pos pos':Pos} {t u:TDS}
end
section
variable {X:Cx} {W:WX} {elt tg iter:Expr} {ifs:List Expr} {scope:Scope} {own:List (Str × Nat)} {pos spos:Pos} {ti:TDI} {g:TDG} {tt:TDT} {te:TD} {ix:List Nat}
end
section
variable {X:Cx} {W:WX} {k n:Nat} {f C r:Addr} {fd:FuncData} {ps ks:List Str} {sp:SpD} {sel:List Sel} {m nm:Str} {p pos apos kpos:Pos} {o e:Expr} {es:List Expr} {kws:List Keyword} {ta tk':TDA} {pl:Sem Bool}
end
end DL
set_option maxHeartbeats 2000000
namespace DL
open PySem PySem.Spec PyProof.Rows L2
section
variable {X:Cx} {pins:List (Addr × Obj)} {σ:L2.St} {H HZ:Hp} {s s1:Shared} {params:Arguments} {xs:List Str} {vs:List Nat}
end
section
variable {X:Cx} {W:WX} {K:PySem.W.Frag} {cs:List Value} {x a:Str} {g c:Addr} {fdg:FuncData} {qg:Str} {pg:Arguments} {bg:List Stmt} {sg:Scope} {Ng xs:List Str} {params:Arguments} {body:Expr} {scope:Scope} {te:TD} {k:Nat} {p lpos pos:Pos} {vs:List Nat}
end
section
variable {X:Cx} {W:WX} {k n:Nat} {f C r:Addr} {fd:FuncData} {ps ks:List Str} {sp:SpD} {sel:List Sel} {m nm:Str} {p pos apos kpos:Pos} {o e:Expr} {es:List Expr} {kws:List Keyword} {ta tk':TDA} {pl:Sem Bool}
end
end DL
set_option maxHeartbeats 4000000
namespace DL
open PySem PySem.Spec PyProof.Rows L2
section
variable {X:Cx} {W:WX} {g0:Stmt} {gs:List Stmt} {tv tu:TS} {pins:List (Addr × Obj)} {D:L2.Ends}
end
section
variable {K:PySem.W.Frag} {W:WX} {G G1 H H1:Hp} {so:So} {σ σ1:L2.St} {sl s1:DSt} {d:Option Addr} {fs:List (Str × D)}
end
section
variable {X:Cx} {W:WX} {body gs:List Stmt} {g0:Stmt} {pos:Pos} {t u:TDS}
end
section
variable {K:PySem.W.Frag} {W:WX} {G G' H H':Hp} {so:So} {σ σ':L2.St} {sl sl':DSt} {x C:Addr} {fs:List (Str × D)} {i:Nat}
end
section
variable {X:Cx} {W:WX} {rest:List Stmt} {u:TDS} {C:Addr} {i:Nat}
end
structure FnVM (P:Program) (w:World) (K:PySem.W.Frag) (mg:Str->Option Value) (base:Heap) (k:Nat) (f C:Addr) (sp:SpM):Prop where
  run:∀ (A:Around) (outer:List Env) (s:Shared) (H:Hp) (us:List Value) (vs:List V) (Q:VK) (E:XK),Room k A->A.guards=some []->Env0 P w K mg base A outer s H->Vals vs us->upM K C sp vs H Q E->
    codeAny (model P w) A (.call (.ref f) ⟨us,[]⟩) (L2.CR (L2N.CX P w) outer P w H s Q E) s
theorem FnVM.mono {P:Program} {w:World} {K:PySem.W.Frag} {mg:Str->Option Value} {base:Heap} {j k:Nat} {f C:Addr} {sp:SpM} (F:FnVM P w K mg base j f C sp) (h:j<=k):FnVM P w K mg base k f C sp:=
  ⟨fun A outer s H us vs Q E hr=>F.run A outer s H us vs Q E (hr.mono h)⟩
section
variable {X:Cx} {W:WX} {k:Nat} {f C:Addr} {sp:SpM} {m:Str} {apos pos:Pos} {o e:Expr} {es:List Expr} {ta:TDA} {pl:Sem Bool} {i:Nat}
end
section
variable {K:PySem.W.Frag} {G H:Hp} {so:So} {σ:L2.St} {sl:DSt} {x C:Addr} {fs:List (Str × D)} {i:Nat}
end
section
variable {X:Cx} {W:WX} {k n:Nat} {f C g:Addr} {fd:FuncData} {ps ks:List Str} {sp:SpD} {sel:List Sel} {m nm:Str} {p pos apos kpos:Pos} {o e:Expr} {es:List Expr} {kws:List Keyword} {ta tk':TDA} {te:TD} {pl:Sem Bool} {i:Nat}
end
section
variable {X:Cx} {W:WX} {x:Str} {kvs:List (Str × Int)} {o b c:Expr} {tb tc:TD} {apos cpos:Pos}
end
section
variable {X:Cx} {W:WX} {k n:Nat} {f:Addr} {fd:FuncData} {ps:List Str} {sp:SpD} {sel:List Sel} {x:Str} {p pos:Pos} {a0:Expr} {es:List Expr} {ta:TDA} {i:Nat}
end
section
variable {X:Cx} {W:WX} {k n:Nat} {f g C:Addr} {fd:FuncData} {ps ks:List Str} {sp:SpD} {sel:List Sel} {m nm:Str} {p pos apos kpos:Pos} {o e:Expr} {es:List Expr} {ta:TDA} {to te:TD} {pl:Sem Bool}
end
section
variable {C:Addr} {sp:SpD}
end
end DL
set_option maxHeartbeats 2000000
namespace DL
open PySem PySem.Spec PyProof.Rows L2
section
variable {K:PySem.W.Frag} {W:WX} {G G1 H H1:Hp} {so:So} {σ σ1:L2.St} {sl s1:DSt} {x C:Addr} {fs:List (Str × D)} {i:Nat}
end
section
variable {X:Cx} {W:WX} {st:Stmt} {rest:List Stmt} {t u:TDS} {i:Nat}
end
section
variable {M:Model} {A:Around} {E:Value->Shared->Prop} {env:Env} {Q:Flow->Shared->Prop}
end
section
variable {K:PySem.W.Frag} {G H:Hp} {so:So} {σ:L2.St} {sl:DSt} {x C:Addr} {fs:List (Str × D)} {i:Nat}
end
section
variable {X:Cx} {W:WX} {sts:List Stmt} {u t:TDS} {C:Addr} {i n:Nat}
end
section
variable {C:Addr} {sp:SpD}
end
section
variable {X:Cx} {W:WX} {k n:Nat} {f C:Addr} {fd:FuncData} {ps ks:List Str} {sp:SpI} {sel:List Sel} {x nm:Str} {p pos kpos:Pos} {e:Expr} {es:List Expr} {kws:List Keyword} {ta tk tk':TDA} {te:TD}
end
section
variable {X:Cx} {W:WX} {k n:Nat} {f g C:Addr} {fd:FuncData} {ps ks:List Str} {sp:SpD} {sel:List Sel} {m nm:Str} {p pos apos kpos:Pos} {o e:Expr} {es:List Expr} {kws:List Keyword} {ta tk':TDA} {to te:TD} {pl:Sem Bool}
end
section
variable {X:Cx} {W:WX} {k n:Nat} {f C:Addr} {fd:FuncData} {ps:List Str} {sp:SpM} {sel:List Sel} {x:Str} {p pos:Pos} {a0:Expr} {es:List Expr} {ta:TDA} {i:Nat}
end
end DL
set_option maxHeartbeats 4000000
namespace DL
open PySem PySem.Spec PyProof.Rows L2
section
variable {X:Cx} {W:WX} {rest:List Stmt} {t:TDS} {i:Nat}
end
section
variable {K:PySem.W.Frag} {G:Hp} {so:So} {σ σ1:L2.St} {H H1:Hp} {sl s1:DSt} {v:V} {y:D} {i:Nat}
end
section
variable {X:Cx} {W:WX} {a b c d:Expr} {ta:TD} {tl:TDA} {i j l m:Nat} {x y z w:Str} {pos:Pos}
end
end DL
namespace DL
section
open PySem PySem.SeqAt GQ
open AutoSeq1 (wpAny_loadPart')
open MeetsSeq MeetsSeq2 MeetsSeq3 SeqRoads2
variable {prog:Program} {w:World} {A:Around} {R:Result->Shared->Prop} {E:Value->Shared->Prop}
end
open PySem PySem.Spec PyProof.Rows L2
section
variable {X:Cx}
end
end DL
set_option maxHeartbeats 2000000
namespace DP
open PySem PySem.W PySem.Calls PyProof.Rows PyProof.V PySem.Spec
section
variable {prog:Program} {w:World} {KT:Type} [DecidableEq KT] {knd:KeyKind prog w KT} {A:Around} {E:Value->Shared->Prop} {s:Shared}
end
section
open PySem.SeqAt MeetsSeq MeetsSeq2 MeetsSeq3 SeqRoads2
open AutoSeq1 (wpAny_loadPart')
variable {prog:Program} {w:World} {A:Around} {R:Result->Shared->Prop} {E:Value->Shared->Prop}
end
end DP
namespace DL
open PySem PySem.Spec PyProof.Rows L2
section
variable {X:Cx} {k:Nat} {f C:Addr} {fd:FuncData} {ps:List Str} {sp:SpD}
end
mutual
inductive NT where
  | leaf (d:D)
  | node (a:Addr) (xs:List NT)
end
mutual
def NT.as:NT->List Addr
  | .leaf _=>[]
  | .node a xs=>a::NT.asL xs
def NT.asL:List NT->List Addr
  | []=>[]
  | x::r=>NT.as x++NT.asL r
end
mutual
inductive NOk (K:PySem.W.Frag) (G H:Hp):V->NT->Prop
  | leaf {v:V} {d:D}:DOk K G v d->NOk K G H v (.leaf d)
  | node {a:Addr} {vs:List V} {xs:List NT}:H a=some (.lst vs)->NAll K G H vs xs->NOk K G H (.ref a) (.node a xs)
inductive NAll (K:PySem.W.Frag) (G H:Hp):List V->List NT->Prop
  | nil:NAll K G H [] []
  | cons {v:V} {x:NT} {vs:List V} {xs:List NT}:NOk K G H v x->NAll K G H vs xs->NAll K G H (v::vs) (x::xs)
end
section
variable {K:PySem.W.Frag} {G G' H H':Hp}
mutual
theorem NOk.keep (e:Ex G G'):∀ {v:V} {t:NT},(∀ a∈t.as,H' a=H a)->NOk K G H v t->NOk K G' H' v t
  | _,.leaf _,_,.leaf h=>.leaf (h.mono e)
  | .ref a,.node _ _,k,.node h r=>.node (by rw [k a (by rw [NT.as];exact List.mem_cons_self ..)];exact h) (NAll.keep e (fun b hb=>k b (by rw [NT.as];exact List.mem_cons_of_mem _ hb)) r)
theorem NAll.keep (e:Ex G G'):∀ {vs:List V} {ts:List NT},(∀ a∈NT.asL ts,H' a=H a)->NAll K G H vs ts->NAll K G' H' vs ts
  | _,_,_,.nil=>.nil
  | _,_,k,.cons h r=>.cons (NOk.keep e (fun b hb=>k b (by rw [NT.asL];exact List.mem_append_left _ hb)) h) (NAll.keep e (fun b hb=>k b (by rw [NT.asL];exact List.mem_append_right _ hb)) r)
end
mutual
theorem NOk.lst:∀ {v:V} {t:NT},NOk K G H v t->∀ a∈t.as,∃ vs,H a=some (.lst vs)
  | _,_,.leaf _,a,m=>by rw [NT.as] at m;cases m
  | _,_,.node h r,b,m=>by
    rw [NT.as] at m
    rcases List.mem_cons.mp m with m | m
    · subst m;exact ⟨_,h⟩
    · exact NAll.lst r b m
theorem NAll.lst:∀ {vs:List V} {ts:List NT},NAll K G H vs ts->∀ a∈NT.asL ts,∃ vs,H a=some (.lst vs)
  | _,_,.nil,a,m=>by rw [NT.asL] at m;cases m
  | _,_,.cons h r,b,m=>by
    rw [NT.asL] at m
    rcases List.mem_append.mp m with m | m
    · exact NOk.lst h b m
    · exact NAll.lst r b m
end
end
def nestG (x:Addr) (t:NT):GR:=⟨t.as,fun K G H=>NOk K G H (.ref x) t/\t.as.Nodup,fun K G G' H H' e k h=>⟨h.1.keep e k,h.2⟩⟩
section
variable {K:PySem.W.Frag} {G G1 H H1:Hp} {as:List Addr}
end
section
variable {K:PySem.W.Frag} {W:WX} {G G1 H H1:Hp} {so:So} {σ σ1:L2.St} {sl s1:DSt} {x:Addr} {t:NT} {i:Nat}
end
section
variable {K:PySem.W.Frag} {W:WX} {G H:Hp} {so:So} {σ:L2.St} {sl:DSt} {x:Addr} {t:NT} {i:Nat} {X:Cx} {e:Expr} {te:TD} {tt:TDT}
end
end DL
set_option maxHeartbeats 4000000
namespace DL
open PySem PySem.Spec PyProof.Rows L2
abbrev nRow (p:Addr × List D):NT:=.node p.1 (p.2.map .leaf)
section
variable {K:PySem.W.Frag} {G G' H H':Hp}
theorem NAll.leaves:∀ {vs:List V} {ds:List D},DAll K G vs ds->NAll K G H vs (ds.map .leaf)
  | _,_,.nil=>.nil
  | _,_,.cons h t=>.cons (.leaf h) (NAll.leaves t)
theorem aeX:∀ (ds:List D),NT.asL (ds.map .leaf)=[]
  | []=>by rw [List.map_nil,NT.asL]
  | d::r=>by rw [List.map_cons,NT.asL,NT.as,aeX r];rfl
theorem aeK:∀ (ps:List (Addr × List D)),NT.asL (ps.map nRow)=ps.map (·.1)
  | []=>by rw [List.map_nil,NT.asL];rfl
  | p::r=>by rw [List.map_cons,NT.asL,NT.as,aeX,aeK r];rfl
end
structure NstOk (K:PySem.W.Frag) (G H:Hp) (so:So) (sl0 sl:DSt) (σ:L2.St) (H1:Hp) (C:Addr) (us:List V) (ps:List (Addr × List D)):Prop where
  ok:NAll K G H us (ps.map nRow)
  own:∀ p∈ps,so.Nt p.1/\G p.1=none/\p.1≠C/\¬ Own sl σ p.1
  new:∀ p∈ps,H1 p.1=none\/Own sl0 σ p.1
  nd:(ps.map (·.1)).Nodup
section
variable {K:PySem.W.Frag} {G G' H H' H1:Hp} {so:So} {sl0 sl sl':DSt} {σ:L2.St} {C:Addr} {us:List V} {ps:List (Addr × List D)}
theorem NstOk.there (h:NstOk K G H so sl0 sl σ H1 C us ps) (p:Addr × List D) (hp:p∈ps):H p.1≠none:=by
  obtain ⟨vs,q⟩:=NAll.lst h.ok p.1 (by rw [aeK];exact List.mem_map_of_mem hp)
  rw [q];simp
theorem NstOk.step (h:NstOk K G H so sl0 sl σ H1 C us ps) (e:Ex G G') (k:∀ a o,H a=some o->so.Nt a->H' a=some o) (f:∀ a,H a≠none->G a=none->so.Nt a->¬ Own sl σ a->G' a=none) (s:∀ a,Own sl' σ a->Own sl σ a):NstOk K G' H' so sl0 sl' σ H1 C us ps:=
  ⟨h.ok.keep e (fun a m=>by
    rw [aeK] at m
    obtain ⟨p,hp,rfl⟩:=List.mem_map.mp m
    exact ace k (h.there p hp) (h.own p hp).1),fun p hp=>by
    obtain ⟨m1,m2,m3,m4⟩:=h.own p hp
    exact ⟨m1,f _ (h.there p hp) m2 m1 m4,m3,fun z=>m4 (s _ z)⟩,h.new,h.nd⟩
end
section
variable {W:WX} {vs0:List Nat} {ti:TDI} {g:TDG} {tt:TDT} {te:TD} {ix:List Nat}
end
abbrev nT (C:Addr) (ps:List (Addr × List D)):NT:=.node C (ps.map nRow)
abbrev nestD (C:Addr) (ps:List (Addr × List D)):DV:=.gh C (nestG C (nT C ps))
theorem akv (C:Addr) (ps:List (Addr × List D)):(nT C ps).as=C::ps.map (·.1):=by rw [NT.as,aeK]
section
variable {K:PySem.W.Frag} {W:WX} {G G1 H H1:Hp} {so:So} {σ σ1:L2.St} {sl s1:DSt} {as:List Addr} {i:Nat} {C:Addr} {ps:List (Addr × List D)} {t:NT}
end
section
variable {X:Cx} {W:WX} {elt tg iter:Expr} {ifs:List Expr} {scope:Scope} {own:List (Str × Nat)} {pos spos:Pos} {ti:TDI} {g:TDG} {tt:TDT} {te:TD} {ix:List Nat} {rest:List Stmt} {u t:TDS} {n:Nat}
end
section
variable {K:PySem.W.Frag} {W:WX} {G G1 H H1:Hp} {so:So} {σ σ1:L2.St} {sl s1:DSt} {i:Nat} {C:Addr} {y:V} {d:D}
theorem NAll.unleaf:∀ {vs:List V} {ds:List D},NAll K G H vs (ds.map .leaf)->DAll K G vs ds
  | _,[],h=>by cases h;exact .nil
  | _,e::r,h=>by
    cases h with
    | cons h t=>
      cases h with
      | leaf h=>exact .cons h (NAll.unleaf t)
theorem NAll.setRow:∀ {us:List V} {ps:List (Addr × List D)} {j k:Nat} {p:Addr × List D} {vs:List V},NAll K G H us (ps.map nRow)->(ps.map (·.1)).Nodup->ps[j]?=some p->H p.1=some (.lst vs)->DOk K G y d->NAll K G (upd H p.1 (.lst (vs.set k y))) us ((ps.set j (p.1,p.2.set k d)).map nRow)
  | _,[],_,_,_,_,_,_,e,_,_=>by simp at e
  | _,q::r,0,k,p,vs,h,nd,e,hp,w=>by
    simp at e;subst e
    cases h with
    | cons h t=>
      cases h with
      | node h l=>
        rw [hp] at h;cases h
        refine .cons (.node upd_same (NAll.leaves (DAll.set w k (NAll.unleaf l)))) (NAll.keep (Ex.refl G) (fun b m=>upd_ne fun z=>?_) t)
        rw [aeK] at m
        rw [List.map_cons,List.nodup_cons] at nd
        exact nd.1 (z ▸ m)
  | _,q::r,j + 1,k,p,vs,h,nd,e,hp,w=>by
    have e':r[j]?=some p:=by simpa using e
    have ne:q.1≠p.1:=fun z=>by
      rw [List.map_cons,List.nodup_cons] at nd
      exact nd.1 (z ▸ List.mem_map_of_mem (List.mem_of_getElem? e'))
    cases h with
    | cons h t=>
      refine .cons ?_ (NAll.setRow t (List.nodup_cons.mp nd).2 e' hp w)
      refine NOk.keep (Ex.refl G) (fun b m=>upd_ne fun z=>?_) h
      rw [NT.as,aeX] at m
      exact ne ((List.mem_singleton.mp m).symm.trans z)
theorem ajU:∀ {ps:List (Addr × List D)} {j:Nat} {p:Addr × List D} {es:List D},ps[j]?=some p->(ps.set j (p.1,es)).map (·.1)=ps.map (·.1)
  | [],_,_,_,e=>by simp at e
  | q::r,0,p,es,e=>by simp at e;subst e;rfl
  | q::r,j + 1,p,es,e=>by
    have z:=ajU (ps:=r) (j:=j) (p:=p) (es:=es) (by simpa using e)
    show q.1::((r.set j (p.1,es)).map (·.1))=q.1::r.map (·.1)
    rw [z]
theorem slotNest {ps:List (Addr × List D)} (r:Rep K G so σ H sl) (e:sl[i]?=some (some (nestD C ps))):σ[i]?=some (some (.ref C))/\(∃ us,H C=some (.lst us)/\NAll K G H us (ps.map nRow))/\(∀ a∈(nT C ps).as,(a,Kd.mt 0)∈so/\H a≠none)/\C∉ps.map (·.1)/\(ps.map (·.1)).Nodup:=by
  obtain ⟨v,e1,rfl,mx,nk,nd⟩:=r.slots i _ e
  have nd:(nT C ps).as.Nodup:=nd
  rw [akv,List.nodup_cons] at nd
  have nk:NOk K G H (.ref C) (nT C ps):=nk
  cases nk with
  | node h l=>exact ⟨e1,⟨_,h,l⟩,mx,nd.1,nd.2⟩
theorem PostS.nest {ps:List (Addr × List D)} {p:Addr × List D} {vs:List V} {j k:Nat} (r:Rep K G so σ H sl) (e:sl[i]?=some (some (nestD C ps))) (nm:noMu (sl.set i none)=true) (ep:ps[j]?=some p) (hp:H p.1=some (.lst vs)) (w:DOk K G y d) :
    PostS K G so σ H sl σ (upd H p.1 (.lst (vs.set k y))) G (sl.set i (some (nestD C (ps.set j (p.1,p.2.set k d))))):=by
  obtain ⟨e1,⟨us,hC,al⟩,mx,cn,nd⟩:=slotNest r e
  have pm:p.1∈(nT C ps).as:=by rw [akv];exact List.mem_cons_of_mem _ (List.mem_map_of_mem (List.mem_of_getElem? ep))
  have ps0:(p.1,Kd.mt 0)∈so:=(mx _ pm).1
  have gp:G p.1=none:=(r.h.vol _ _ ps0).g
  have nC:C≠p.1:=fun z=>cn (z ▸ List.mem_map_of_mem (List.mem_of_getElem? ep))
  have nt:∀ a,so.Nt a->a≠p.1:=fun a s z=>s ⟨_,z ▸ ps0⟩
  have li:i < sl.length:=(List.getElem?_eq_some_iff.mp e).1
  have own:∀ a,Own (sl.set i (some (nestD C (ps.set j (p.1,p.2.set k d))))) σ a->Own sl σ a:=fun a ⟨m,o,f1,f2⟩=>by
    rcases get_set f1 with ⟨_,z⟩ | ⟨_,z⟩
    · cases z
    · exact ⟨m,o,z,f2⟩
  have eas:(nT C (ps.set j (p.1,p.2.set k d))).as=(nT C ps).as:=by rw [akv,akv,ajU ep]
  refine ⟨Ex.refl G,⟨⟨fun a o q=>?_,fun a kd q=>?_,r.h.ok,aeZ r.h.tp (by intro _ z;cases z)⟩,by rw [List.length_set];exact r.len,fun m dv f=>?_,fun m n o o' b f1 f2 f3 f4=>?_,fun m o b f1 f2 z=>?_,fun m o f=>?_⟩,fun a o q s _=>by rw [upd_ne (nt a s)];exact q,fun a _ g _ _=>g,fun a _ _ z y=>z (own a y),rfl⟩
  · rw [upd_ne (ne_of_none q gp)];exact r.h.ex a o q
  · by_cases z:a=p.1
    · subst z
      cases r.h.ok.uq _ _ _ q ps0
      exact ⟨gp,.inr ⟨_,.inl upd_same⟩⟩
    · exact (r.h.vol a kd q).keep (Ex.refl G) (r.h.vol a kd q).g (upd_ne z)
  · rcases get_set f with ⟨rfl,z⟩ | ⟨nj,z⟩
    · cases z
      refine ⟨_,e1,rfl,fun a m=>?_,?_,?_⟩
      · have m:a∈(nT C ps).as:=eas ▸ m
        refine ⟨(mx a m).1,?_⟩
        by_cases z:a=p.1
        · subst z;rw [upd_same];simp
        · rw [upd_ne z];exact (mx a m).2
      · exact .node (by rw [upd_ne nC];exact hC) (NAll.setRow al nd ep hp w)
      · show (nT C (ps.set j (p.1,p.2.set k d))).as.Nodup
        rw [eas,akv];exact List.nodup_cons.mpr ⟨cn,nd⟩
    · obtain ⟨u,w1,w2⟩:=r.slots m dv z
      refine ⟨u,w1,?_⟩
      have q:∀ x,(sl.set i none)[m]?=some (some x) ↔ sl[m]?=some (some x):=fun x=>by rw [List.getElem?_set_ne (fun z=>nj z.symm)]
      cases dv with
      | d z=>exact w2
      | src=>exact w2
      | own o=>obtain ⟨b,q1,q2,q3,q4⟩:=w2;exact ⟨b,q1,q2,q3,q4.keep (Ex.refl G) (upd_ne (nt b q3))⟩
      | bor o=>obtain ⟨b,q1,q3,q4⟩:=w2;exact ⟨b,q1,q3,q4.keep (Ex.refl G) (upd_ne (nt b q3))⟩
      | see o=>exact absurd z (r.nse m o)
      | mu x D gs=>exact absurd ((q _).mpr z) (aiY nm)
      | gh x g=>exact absurd ((q _).mpr z) (ahO nm)
  · have g:∀ (m:Nat) (o3:OO),(sl.set i (some (nestD C (ps.set j (p.1,p.2.set k d)))))[m]?=some (some (.own o3))->sl[m]?=some (some (.own o3)):=fun m o3 em=>by
      rcases get_set em with ⟨_,q⟩ | ⟨_,q⟩
      · cases q
      · exact q
    exact r.sep m n o o' b (g _ _ f1) (g _ _ f2) f3 f4
  · rcases get_set f1 with ⟨_,q⟩ | ⟨_,q⟩
    · cases q
    · exact r.bor m o b q f2 (own _ z)
  · rcases get_set f with ⟨_,q⟩ | ⟨_,q⟩
    · cases q
    · exact r.nse m o q
end
section
variable {X:Cx} {W:WX} {o key1 key value:Expr} {tj tk te:TD} {pos pos' pos'':Pos} {i:Nat}
end
section
variable {X:Cx} {W:WX} {e:Expr} {te:TD} {tt:TDT}
end
def bad1 (e:Nat->Nat->D) (i j:Nat):Prop:=match ratOf (e i j) with
  | none=>True
  | some q=>q < 0\/(i=j/\q≠0)
def bad2 (n:Nat) (f:Nat->Nat->Rat) (i j:Nat):Prop:=∃ k,k < n/\f i k + f k j < f i j
def ahead (n i j i' j':Nat):Prop:=i' < n/\j' < n/\(i' < i\/(i'=i/\j' < j))
def FirstW (n:Nat) (e:Nat->Nat->D) (Q:D->Prop):Prop:=
  (∀ i j,i < n->j < n->bad1 e i j->(∀ i' j',ahead n i j i' j'->¬ bad1 e i' j')->Q (.tup [.int (i:Int),.int (j:Int)]))/\
  ((∀ i j,i < n->j < n->¬ bad1 e i j)->∀ f:Nat->Nat->Rat,(∀ i j,i < n->j < n->ratOf (e i j)=some (f i j))->
    (∀ i j,i < n->j < n->bad2 n f i j->(∀ i' j',ahead n i j i' j'->¬ bad2 n f i' j')->Q (.tup [.int (i:Int),.int (j:Int)]))/\((∀ i j,i < n->j < n->¬ bad2 n f i j)->Q .non))
theorem FirstW.mono {n:Nat} {e:Nat->Nat->D} {Q Q':D->Prop} (h:FirstW n e Q) (m:∀ d,Q d->Q' d):FirstW n e Q':=
  ⟨fun i j a b c d=>m _ (h.1 i j a b c d),fun a f b=>⟨fun i j c d x y=>m _ ((h.2 a f b).1 i j c d x y),fun c=>m _ ((h.2 a f b).2 c)⟩⟩
section
variable {P:Program} {w:World} {K:PySem.W.Frag} {mg:Str->Option Value} {base:Heap} {x qual:Str} {params:Arguments} {body:List Stmt} {scope:Scope} {dvs:List V} {kws:List (Str × V)} {fa:Addr} {fd:FuncData} {N:List Str} {k:Nat} {t:TDS}
end
section
variable {X:Cx} {W:WX} {k n:Nat} {f:Addr} {fd:FuncData} {ps ks:List Str} {sp:SpD} {sel:List Sel} {x nm:Str} {p pos kpos:Pos} {e:Expr} {es:List Expr} {kws:List Keyword} {ta tk tk':TDA} {te:TD}
end
section
variable {X:Cx} {W:WX} {k n:Nat} {f C:Addr} {fd:FuncData} {ps ks:List Str} {sp:SpD} {sel:List Sel} {m nm:Str} {p pos apos kpos:Pos} {o e:Expr} {es:List Expr} {kws:List Keyword} {ta tk tk':TDA} {to te:TD} {pl:Sem Bool}
end
section
variable {X:Cx} {W:WX} {k:Nat} {C p g:Addr} {f:Str} {fd:FuncData} {ps:List Str} {sp:SpD} {e:Expr} {te:TD} {pos:Pos}
end
section
variable {X:Cx} {W:WX} {k:Nat} {f:Addr} {fd:FuncData} {ps:List Str} {sp:SpD}
end
end DL
namespace PySem.W
open PySem PySem.Calls PyProof.Rows Builtin
section
variable {prog:Program} {w:World} {A:Around} {E:Value->Shared->Prop} {s:Shared} {K:Frag} {x C L f:Addr} {h₀:Heap} {m:Str->Option Value} {ox:Obj} {od:Option Obj} {name:Str}
end
end PySem.W
namespace DL
open PySem PySem.Spec PyProof.Rows L2
mutual
def dpI:D->Nat
  | .lst ds=>dpIs ds + 1
  | .tup ds=>dpIs ds + 1
  | .non=>0
  | .bl _=>0
  | .int _=>0
  | .str _=>0
  | .ins _ _=>0
  | .dk _=>0
  | .dt _=>0
  | .any=>0
  | .raw _=>0
  | .kt _=>0
def dpIs:List D->Nat
  | []=>0
  | d::r=>max (dpI d) (dpIs r)
end
mutual
def okI (C:Addr) (P:List (Str × D)->Prop):D->Prop
  | .non=>True
  | .bl _=>True
  | .str _=>True
  | .int i=>i.natAbs.log2 < 1920
  | .lst ds=>okIs C P ds
  | .tup ds=>okIs C P ds
  | .ins D fs=>D=C/\P fs
  | .dk _=>False
  | .dt _=>False
  | .any=>False
  | .raw _=>False
  | .kt _=>False
def okIs (C:Addr) (P:List (Str × D)->Prop):List D->Prop
  | []=>True
  | d::r=>okI C P d/\okIs C P r
end
section
variable {X:Cx} {pins:List (Addr × Obj)} {σ:L2.St} {G G' H:Hp} {s:Shared} {C:Addr} {P:List (Str × D)->Prop}
def GdOk (X:Cx) (C:Addr) (P:List (Str × D)->Prop) (G:Hp) (g:List Code) (n:Nat):Prop:=∀ (id:String) (v:Value) (rest:List Value) (kw:List (Str × Value)),Code.builtin id ⟨v::rest,kw⟩∈g->∃ a d,v=.ref a/\DOk X.K G (.ref a) d/\okI C P d/\n < dpI d
theorem GdOk.mono {g:List Code} {n m:Nat} (h:GdOk X C P G g n) (e:Ex G G') (l:m<=n):GdOk X C P G' g m:=fun id v rest kw q=>by
  obtain ⟨a,d,e1,e2,e3,e4⟩:=h id v rest kw q
  exact ⟨a,d,e1,e2.mono e,e3,by omega⟩
theorem GdOk.cons {g:List Code} {n m:Nat} {a:Addr} {d:D} {id:String} {rest:List Value} {kw:List (Str × Value)} (h:GdOk X C P G g n) (w:DOk X.K G (.ref a) d) (o:okI C P d) (l:m < dpI d) (l2:m<=n):GdOk X C P G (.builtin id ⟨.ref a::rest,kw⟩::g) m:=fun id' v rest' kw' q=>by
  rcases List.mem_cons.mp q with e | q
  · cases e
    exact ⟨a,d,rfl,w,o,l⟩
  · exact h.mono (Ex.refl G) l2 id' v rest' kw' q
end
theorem Room.shown {k:Nat} {A:Around} {c:Code} (r:Room (k + 1) A) (hw:c.weight<=1) (hu:(A.under c).units=A.units + 1):Room k (A.under c):=
  ⟨r.hd,by have:=r.dp;show A.depth + c.weight + 3 * k + 5 < _;omega,by have:=r.un;rw [hu];omega⟩
section
variable {X:Cx} {k:Nat} {C f:Addr} {fd:FuncData} {ps:List Str} {sp:SpD} {P:List (Str × D)->Prop} {rp:List (Str × D)->Str}
end
section
variable {X:Cx} {k:Nat} {C f:Addr} {fd:FuncData} {ps:List Str} {sp:SpD} {P:List (Str × D)->Prop} {rp:List (Str × D)->Str}
end
section
variable {g:TDG} {tt:TDT} {te:TD} {vs:List Nat} {Q:List (List D)->DSt->Prop}
end
def tBMP (r:V->List V->Hp->VK->Prop) (to:TE) (t:TA):TE:=fun σ H Q=>to σ H fun x H1=>(∃ p o u,x=.ref p/\H1 p=some (.frz o u)/\o.cls=.type "tuple"/\o.dict=none)/\t σ H1 fun xs H2=>r x xs H2 Q
section
variable {X:Cx} {o e:Expr} {es:List Expr} {to:TE} {t:TA} {name:Str} {apos cpos:Pos} {id:String} {r:V->List V->Hp->VK->Prop}
theorem aog (pa:PlainAttrs "tuple") (slot:Slot "tuple" name id) (hty:typeOf (.builtin id)=pure (.type "method_descriptor")) (hm:MtR X id r) (ho:PE X o to) (ha:PA X (e::es) t)
    (hbase:attributeBase o name X.env (eval o X.env)=eval o X.env:=by rfl)
    (hfew:((backTo cpos (starEach (e::es) X.env)).all (fun x=>!x.1) && (backToKw cpos (keywordEach [] X.env)).all (fun x=>x.1.isSome)
      && decide ((e::es).length + ([]:List Keyword).length + (if ([]:List Keyword).isEmpty then 0 else 1) < 30))=true:=by rfl)
    (hline:(apos.endLine == cpos.line)=true:=by rfl) (hs:starEach (e::es) X.env=(false,eval e X.env)::starEach es X.env:=by rfl) (hplain:(backTo cpos (starEach es X.env)).any (·.1)=false:=by rfl) :
    PE X (.Call (.Attribute o name apos) (e::es) [] cpos) (tBMP r to t):=by
  refine ⟨fun pins s σ H Q I h=>?_⟩
  refine wpAny_Call_method_late hbase hfew hline rfl (thn (ho.run pins s σ H _ I h) fun v s1 ⟨x,H1,I1,r1,⟨p,ob,u,ex,hp,hc,hd⟩,q1⟩=>?_)
  subst ex
  obtain rfl:v=Value.ref p:=r1
  have go:s1.heap.get? p=some ob:=(I1.hok p _ hp).1
  refine ⟨"tuple",id,pa,slot,hty,⟨ob,go,hc⟩,(fun a ea=>by cases ea;exact ⟨ob,go,hd⟩),?_⟩
  have hA:=ha.run cpos pins s1 σ H1 _ I1 q1
  rw [hs] at hA ⊢
  refine Calls.callWith_builtin (by show (false || (backTo cpos (starEach es X.env)).any (·.1))=false;rw [hplain]<;>rfl) (Calls.evalArgs_plain ?_)
  exact thn hA fun us s2 ⟨vs,H2,I2,r2,q2⟩=>hm pins s2 σ H2 (.ref p) vs (.ref p) us Q I2 rfl r2 q2
def rTIndex (K:PySem.W.Frag):V->List V->Hp->VK->Prop:=fun x xs H Q=>∃ (a:Addr) (ys:List V) (y:V) (j:Nat) (z:V),x=V.ref a/\xs=[y]/\SqT K H a ys/\flatV y=true/\ys.all flatV=true/\ys[j]?=some z/\L2.eqV z y=true/\
  (∀ (m:Nat) (z':V),m < j->ys[m]?=some z'->L2.eqV z' y=false)/\Q (.int (j:Nat)) H
theorem akw:MtR X "tuple.index" (rTIndex X.K):=by
  intro pins s σ H x xs v us Q I rx rxs h
  obtain ⟨a,ys,y,j,z,rfl,rfl,hs,fy,fys,hz,hzj,hno,q⟩:=h
  cases rx
  cases rxs with
  | cons ry rt=>
    rename_i uy ut
    cases rt
    obtain ⟨its,rv,⟨⟨cls,dd,data,sl⟩,ho,hc,n,hd⟩,hlen⟩:=I.tuple hs
    simp only at hc hd
    subst hc hd
    obtain ⟨u,hu,ru⟩:=rv.get hz
    obtain ⟨hjl,hje⟩:=List.getElem?_eq_some_iff.mp hu
    have hvl:=rv.length
    have hj:j < its.toArray.size:=by simpa using hjl
    refine call_meets PySem.F.slot_tuple_index ⟨_,ho,rfl⟩ PySem.F.entry_tuple_index (PySem.F.args_tuple_index_2 _ _)
      (TI.tuple_indexAt a its.toArray n dd sl uy (L2.eqU y) j hj ?_ ?_) ⟨ho,fun u' hu'=>mem_eqAt ry fy rv fys u' (by simpa using hu'),?_⟩
    · have e1:its.toArray[j]=u:=by simpa using hje
      rw [e1,eqU_of ru (flat_at fys hz)]
      exact hzj
    · intro m hm hmj
      have hml:m < its.length:=by simpa using hm
      have hmy:m < ys.length:=by omega
      have hy':ys[m]?=some ys[m]:=List.getElem?_eq_getElem hmy
      obtain ⟨u2,hu2,ru2⟩:=rv.get hy'
      obtain ⟨_,hme⟩:=List.getElem?_eq_some_iff.mp hu2
      have e1:its.toArray[m]=u2:=by simpa using hme
      rw [e1,eqU_of ru2 (flat_at fys hy')]
      exact hno m _ hmj hy'
    · exact ⟨.int (j:Nat),H,I.tok _,⟨_,rfl⟩,q⟩
end
def tupG (x:Addr) (ds:List D):GR:=⟨[],fun K G _=>∃ o vs,G x=some (.frz o (.tup vs))/\o.cls=.type "tuple"/\o.dict=none/\DAll K G vs ds,fun K G G' H H' e _ ⟨o,vs,h1,h2,h3,h4⟩=>⟨o,vs,e _ _ h1,h2,h3,h4.mono e⟩⟩
abbrev tupP (x:Addr) (ds:List D):DV:=.gh x (tupG x ds)
section
variable {K:PySem.W.Frag} {W:WX} {G G' H H':Hp} {so:So} {σ σ':L2.St} {sl sl':DSt} {x:Addr} {ds:List D} {i:Nat}
theorem Rep.exch {a b:DV} (r:Rep K G so σ H sl) (e:sl[i]?=some (some a)) (na:∀ o,a≠.own o) (nb:(∀ o,b≠.own o)/\(∀ o,b≠.bor o)/\∀ o,b≠.see o) (h:∀ v,σ[i]?=some (some v)->SlOk K G so H v b) :
    Rep K G so σ H (sl.set i (some b))/\∀ c,Own (sl.set i (some b)) σ c ↔ Own sl σ c:=by
  have own:∀ c,Own (sl.set i (some b)) σ c ↔ Own sl σ c:=fun c=>⟨fun ⟨j,o,f1,f2⟩=>by
    rcases get_set f1 with ⟨_,z⟩ | ⟨_,z⟩
    · exact absurd (Option.some.inj z).symm (nb.1 o)
    · exact ⟨j,o,z,f2⟩,fun ⟨j,o,f1,f2⟩=>⟨j,o,by
      rw [List.getElem?_set_ne (fun z=>by subst z;rw [e] at f1;cases f1;exact na o rfl)];exact f1,f2⟩⟩
  refine ⟨⟨r.h,by rw [List.length_set];exact r.len,fun j dv f=>?_,fun j k o o' c f1 f2 f3 f4=>?_,fun j o c f1 f2 z=>?_,fun j o f=>?_⟩,own⟩
  · rcases get_set f with ⟨rfl,z⟩ | ⟨nj,z⟩
    · cases z
      obtain ⟨v,e1,_⟩:=r.slots j _ e
      exact ⟨v,e1,h v e1⟩
    · exact r.slots j dv z
  · have g:∀ (m:Nat) (o3:OO),(sl.set i (some b))[m]?=some (some (.own o3))->sl[m]?=some (some (.own o3)):=fun m o3 em=>by
      rcases get_set em with ⟨_,q⟩ | ⟨_,q⟩
      · exact absurd (Option.some.inj q).symm (nb.1 o3)
      · exact q
    exact r.sep j k o o' c (g _ _ f1) (g _ _ f2) f3 f4
  · rcases get_set f1 with ⟨_,q⟩ | ⟨_,q⟩
    · exact absurd (Option.some.inj q).symm (nb.2.1 o)
    · exact r.bor j o c q f2 ((own _).mp z)
  · rcases get_set f with ⟨_,q⟩ | ⟨_,q⟩
    · exact absurd (Option.some.inj q).symm (nb.2.2 o)
    · exact r.nse j o q
theorem slotP (r:Rep K G so σ H sl) (e:sl[i]?=some (some (tupP x ds))):σ[i]?=some (some (.ref x))/\∃ o vs,G x=some (.frz o (.tup vs))/\o.cls=.type "tuple"/\o.dict=none/\DAll K G vs ds:=by
  obtain ⟨v,e1,rfl,_,h⟩:=r.slots i _ e
  exact ⟨e1,h⟩
theorem an0 (h:∃ o vs,G x=some (.frz o (.tup vs))/\o.cls=.type "tuple"/\o.dict=none/\DAll K G vs ds):DOk K G (.ref x) (.tup ds):=by
  obtain ⟨o,vs,h1,_,_,h2⟩:=h
  exact .tup (.inl (.inr ⟨o,h1⟩)) h2
theorem Rep.lendP (r:Rep K G so σ H sl) (e:sl[i]?=some (some (tupP x ds))):Rep K G so σ H (sl.set i (some (.d (.tup ds))))/\∀ c,Own (sl.set i (some (.d (.tup ds)))) σ c ↔ Own sl σ c:=
  r.exch e (fun _ z=>nomatch z) ⟨(fun _ z=>nomatch z),(fun _ z=>nomatch z),(fun _ z=>nomatch z)⟩ fun v ev=>by
    obtain ⟨e1,h⟩:=slotP r e
    rw [e1] at ev;cases ev
    exact an0 h
theorem Post.backP (r:Rep K G so σ H sl) (e:sl[i]?=some (some (tupP x ds))) (p:Post K G so σ H (sl.set i (some (.d (.tup ds)))) H' G' (sl.set i (some (.d (.tup ds))))):Post K G so σ H sl H' G' sl:=by
  obtain ⟨e1,hx⟩:=slotP r e
  obtain ⟨_,own⟩:=r.lendP e
  have hi:i < sl.length:=(List.getElem?_eq_some_iff.mp e).1
  have es:(sl.set i (some (.d (.tup ds)))).set i (some (tupP x ds))=sl:=by
    rw [List.set_set]
    exact List.ext_getElem? fun j=>by
      by_cases z:i=j
      · subst z;rw [List.getElem?_set_self hi];exact e.symm
      · rw [List.getElem?_set_ne z]
  obtain ⟨r2,own2⟩:=p.rep.exch (i:=i) (a:=.d (.tup ds)) (b:=tupP x ds) (List.getElem?_set_self hi) (fun _ z=>nomatch z) ⟨(fun _ z=>nomatch z),(fun _ z=>nomatch z),(fun _ z=>nomatch z)⟩ fun v ev=>by
    rw [e1] at ev;cases ev
    exact ⟨rfl,fun a m=>(nomatch m),(tupG x ds).st K G G' H H' p.ex (fun a m=>(nomatch m)) hx⟩
  rw [es] at r2
  exact ⟨p.ex,r2,p.keep,fun a n g s w=>p.frm a n g s fun z=>w ((own a).mp z),fun a z=>z,fun j o z=>⟨o,z⟩⟩
end
def dLendPT (i:Nat) (tt:TDT):TDT:=fun sl Q E=>∃ x ds,sl[i]?=some (some (tupP x ds))/\
  tt (sl.set i (some (.d (.tup ds)))) (fun b s1=>s1=sl.set i (some (.d (.tup ds)))/\Q b sl) (fun cls fs s1=>s1=sl.set i (some (.d (.tup ds)))/\E cls fs sl)
section
variable {X:Cx} {W:WX} {i:Nat} {e:Expr} {te:TD} {tt:TDT}
theorem XOk.lendP {K:PySem.W.Frag} {G H:Hp} {so:So} {σ:L2.St} {sl:DSt} {x:Addr} {ds:List D} {E:XP} (r:Rep K G so σ H sl) (g:sl[i]?=some (some (tupP x ds))) (h:XOk K W G so σ H sl E) :
    XOk K W G so σ H (sl.set i (some (.d (.tup ds)))) (fun cls fs s1=>s1=sl.set i (some (.d (.tup ds)))/\E cls fs sl):=fun cls d H1 G1 fs s1 p xd ⟨q1,q3⟩=>by
  subst q1
  exact h cls d H1 _ fs sl (Post.backP r g p) xd q3
theorem ag8 (h:DT X W e tt) (i:Nat):DT X W e (dLendPT i tt):=ahC h fun σ H R ⟨G,so,sl,Q,E,rep,⟨x,ds,g,q⟩,hq,hx⟩=>by
  refine ⟨_,_,_,_,_,(rep.lendP g).1,q,fun b H1 G1 s1 p ⟨q1,q2⟩=>?_,hx.lendP rep g⟩
  subst q1
  exact hq b H1 _ sl (Post.backP rep g p) q2
end
def dWkP (i:Nat) (t:TDS):TDS:=fun E sl=>∃ x ds,sl[i]?=some (some (tupP x ds))/\t E (sl.set i (some (.d (.tup ds))))
section
variable {X:Cx} {W:WX} {i:Nat} {st:Stmt} {t:TDS}
theorem aoJ (i:Nat) (h:DS X W st t):DS X W st (dWkP i t):=adu h fun D σ H ⟨G,so,sl,E,rep,⟨x,ds,g,q⟩,ok⟩=>by
  obtain ⟨r2,own⟩:=rep.lendP g
  exact ⟨G,so,_,E,r2,q,ok.step ⟨Ex.refl G,r2,fun _ _ e _ _=>e,fun _ _ g _ _=>g,fun a _ _ z y=>z ((own a).mp y),rfl⟩⟩
end
def dIdxP (i:Nat) (te:TD):TD:=fun sl Q E=>te sl (fun y s1=>∃ (x:Addr) (ns:List Int) (z:Int) (j:Nat),s1[i]?=some (some (tupP x (ns.map D.int)))/\y=.d (.int z)/\FirstAt ns z j/\Q (.d (.int j)) s1) E
section
variable {X:Cx} {W:WX} {o e:Expr} {te:TD} {apos pos:Pos} {i:Nat}
theorem anN (ho:PE X o (tVar i)) (he:DE X W e te) (hs:starEach [e] X.env=(false,eval e X.env)::starEach [] X.env:=by rfl) (hbase:attributeBase o "index" X.env (eval o X.env)=eval o X.env:=by rfl)
    (hfew:((backTo pos (starEach [e] X.env)).all (fun x=>!x.1) && (backToKw pos (keywordEach [] X.env)).all (fun x=>x.1.isSome)
      && decide ([e].length + ([]:List Keyword).length + (if ([]:List Keyword).isEmpty then 0 else 1) < 30))=true:=by rfl)
    (hline:(apos.endLine == pos.line)=true:=by rfl) (hplain:(backTo pos (starEach [] X.env)).any (·.1)=false:=by rfl):DE X W (.Call (.Attribute o "index" apos) [e] [] pos) (fun sl Q E=>(∃ x ds,sl[i]?=some (some (tupP x ds)))/\dIdxP i te sl Q E):=by
  refine aa3 (aog PySem.F.plainAttrs_tuple PySem.F.slot_tuple_index PySem.F.type_tuple_index akw ho (pa_cons he pa_nil hs) hbase hfew hline hs hplain) fun σ H R ⟨G,so,sl,Q,E,rep,⟨⟨x0,ds0,e0⟩,q⟩,hq,hx⟩=>?_
  obtain ⟨e1,o1,vs1,g1,c1,d1,_⟩:=slotP rep e0
  refine ⟨.ref x0,e1,⟨x0,o1,_,rfl,rep.h.ex _ _ g1,c1,d1⟩,G,so,sl,_,E,rep,q,fun y H2 G2 dy s2 p2 h2=>?_,hx⟩
  obtain ⟨x,ns,z,j,e2,rfl,fa,h2⟩:=h2
  obtain ⟨e3,o2,vs2,g2,_,_,da⟩:=slotP p2.rep e2
  rw [e1] at e3;cases e3
  have wy:=p2.val
  cases wy
  obtain ⟨f1,f2⟩:=fa.eq
  exact ⟨x0,ns.map V.int,.int z,j,.int z,rfl,rfl,by rw [<- da.ints_of];exact .inl (.inr ⟨o2,p2.rep.h.ex _ _ g2⟩),rfl,ahV ns,f1,by show (z == z)=true;exact beq_self_eq_true z,f2,
    hq _ H2 G2 _ s2 (p2.toPost.thenV (.dat p2.rep.h (.int _))) h2⟩
end
def dLendPI (i:Nat) (ti:TDI):TDI:=fun sl Q E=>∃ x ds,sl[i]?=some (some (tupP x ds))/\
  ti (sl.set i (some (.d (.tup ds)))) (fun es s1=>s1=sl.set i (some (.d (.tup ds)))/\Q es sl) (fun cls fs s1=>s1=sl.set i (some (.d (.tup ds)))/\E cls fs sl)
theorem al0 {X:Cx} {W:WX} {tg e:Expr} {ti:TDI} (h:DI X W tg e ti) (i:Nat):DI X W tg e (dLendPI i ti):=ahE h fun σ H R ⟨G,so,sl,Q,E,rep,⟨x,ds,g,q⟩,hq,hx⟩=>by
  obtain ⟨r2,own⟩:=rep.lendP g
  refine ⟨_,_,_,_,_,r2,q,fun J H1 G1 es s1 p it ⟨q1,q2⟩=>?_,hx.lendP rep g⟩
  subst q1
  obtain ⟨ps,w1,w2⟩:=it
  exact hq J H1 _ es sl (Post.backP rep g p) ⟨ps,fun a m=>⟨(w1 a m).1,(w1 a m).2.1,fun z=>(w1 a m).2.2 ((own a).mpr z)⟩,w2⟩ q2
theorem ah9 {N:List Str} {as:List DV} {a b:DV}:(startD N (as++[a])).set as.length (some b)=startD N (as++[b]):=by
  unfold startD
  simp
theorem anC {P:Program} {w:World} {K:PySem.W.Frag} {mg:Str->Option Value} {base:Heap} {x qual pv:Str} {params:Arguments} {body:List Stmt} {scope:Scope} {kws:List (Str × V)} {f:Addr} {fd:FuncData} {N ps:List Str} {k:Nat} {sp:SpD} {t:TDS}
    (F:FunD K x qual params body scope [] kws f fd) (S:FnScope N (ps++[pv]) scope) (hb:∀ (kV doc pm:Value) (an:Option Addr) (cdv ct:Value) (us rest:List Value),us.length=ps.length->bindArgs (PySem.W.fnOf x qual params body scope .none kV doc pm an cdv ct) ⟨us++rest,[]⟩=(newTuple rest >>= fun t=>pure (ps.zip us++[(pv,t)])))
    (nsee:∀ args Q E,sp args Q E->∀ (i:Nat) (o:OO),args[i]?≠some (.see o))
    (hd:∀ (cdv:Value) (A:Around) (outer:List Env) (s:Shared) (H:Hp) (E:XK),Room k (A.deeper (envOfC qual scope s.heap.objs.size f cdv))->(cxOf (L2N.CX P w) P w K mg base N qual scope f cdv A outer s H E).A.guards=some []->
      DSs (cxOf (L2N.CX P w) P w K mg base N qual scope f cdv A outer s H E) (fun cls d _ H'=>E cls d H') body t)
    (hr:∀ (as:List DV) (ds:List D) (x:Addr) Q E,as.length=ps.length->sp (as++[.d (.tup ds)]) Q E->t { nx:=fun _=>Q (.d .non),rt:=fun v _=>retQ Q v,bk:=fun _=>False,ct:=fun _=>False,xc:=fun cls fs _=>E cls fs } (startD N (as++[tupP x ds]))):FnV P w K mg base (k + 1) f (spV ps.length sp):=by
  obtain ⟨oc,od,dV,kV,doc,pm,an,cdv,ct,osl,rfl,lk,hcd,hD,_⟩:=F.ex
  obtain rfl:dV=.none:=by
    rcases hD with ⟨_,e⟩ | ⟨e,_⟩
    · exact e
    · exact absurd rfl e
  replace hb:=hb kV doc pm an cdv ct
  refine ⟨fun A outer s H us vs Q E hroom hg e0 r hsp=>?_⟩
  obtain ⟨G,so,args,QD,ED,hrep,wv,⟨as,ds,rfl,al,dl,q⟩,hq,hx⟩:=aiI hsp
  obtain ⟨ws,rest,rfl,w1,w2⟩:=aiF wv
  obtain ⟨u1,u2,rfl,r1,r2⟩:=StX.vals_split r
  have da:=ajO w2
  have hl:ws.length=ps.length:=w1.length.trans al
  have hl1:u1.length=ps.length:=by rw [<- r1.length];exact hl
  have hl2:u2.length<=sizeLine:=by rw [<- r2.length,da.length,<- acr];exact dl
  have hz:rest.length<=sizeLine:=by rw [da.length,<- acr];exact dl
  have hn:H s.heap.objs.size=Option.none:=e0.hok.fresh (Nat.le_refl _)
  refine StX.run_bnd lk hcd S hroom e0 (G:=fun xs H2=>∃ p o,H p=Option.none/\xs=ws++[V.ref p]/\o.cls=.type "tuple"/\o.dict=none/\H2=upd H p (.frz o (.tup rest))) (fun A' Ex Q' h=>?_) fun s2 H2 xs ⟨p,o,hp,ex,oc,odd,eH⟩ hr'=>?_
  · rw [hb u1 u2 hl1]
    refine wpAny_bind (wpAny_newTuple (wpAny_pure ?_) hl2)
    have new:ObjOk P w (upd H s.heap.objs.size (.frz ({ cls:=.type "tuple",data:=.seq u2.toArray }:Obj) (.tup rest))) (s.heap.push ({ cls:=.type "tuple",data:=.seq u2.toArray }:Obj)) s.heap.objs.size (.frz ({ cls:=.type "tuple",data:=.seq u2.toArray }:Obj) (.tup rest)):=⟨Heap.get?_push_size _ rfl,hz,u2,r2,⟨_,Heap.get?_push_size _ rfl,rfl,_,rfl⟩⟩
    have un:=StX.un_laid (fs:=frs outer) (s:=s) (o:=({ cls:=.type "tuple",data:=.seq u2.toArray }:Obj)) (u:=.frz ({ cls:=.type "tuple",data:=.seq u2.toArray }:Obj) (.tup rest)) hn
    have z:=h _ _ (ws++[V.ref s.heap.objs.size]) (u1++[Value.ref s.heap.objs.size]) (StX.env0_laid e0 new) un rfl (fun e s'=>cxUpN outer s H _ _ E e s' un (fun b o q=>Heap.get?_push_of_some _ q) rfl) (r1.append (.cons rfl .nil))
      (by rw [List.length_append,List.length_append,hl]<;>rfl) ⟨_,_,hn,rfl,rfl,rfl,rfl⟩
    rw [List.zip_append hl1.symm] at z
    exact z
  · subst ex eH
    have gp:G p=none:=hrep.ex.free hp
    have sqp:SqT K (upd G p (.frz o (.tup rest))) p rest:=.inl (.inr ⟨o,upd_same⟩)
    have pt:PostV K G so H (.ref p) (upd H p (.frz o (.tup rest))) (upd G p (.frz o (.tup rest))) (.d (.tup ds)):=
      ⟨Ex.new gp,hrep.allocG hp,fun _ _ e _=>Ex.new hp _ _ e,fun b q g _=>by rw [upd_ne (fun z=>by subst z;exact q hp)];exact g,DOk.tup sqp (da.mono (Ex.new gp)),fun _ o e=>(nomatch e),fun _ e=>(nomatch e)⟩
    have wn:VsOk K (upd G p (.frz o (.tup rest))) so (upd H p (.frz o (.tup rest))) (ws++[.ref p]) (as++[.d (.tup ds)]):=(w1.keep pt.ex fun a o e s=>pt.keep a o e s.q).append (.cons pt.val (fun _ e=>(nomatch e)) .nil)
    have rep0:Rep K (upd G p (.frz o (.tup rest))) so (L2.start N (ws++[.ref p])) (upd H p (.frz o (.tup rest))) (startD N (as++[.d (.tup ds)])):=ahB pt.hrep wn (nsee _ _ _ q)
    have no0:∀ a,¬ Own (startD N (as++[.d (.tup ds)])) (L2.start N (ws++[.ref p])) a:=fun a ⟨i,o,e,_⟩=>by
      obtain ⟨_,_,_,n⟩:=wn.get (acZ e)
      exact n o rfl
    have e0:(startD N (as++[DV.d (D.tup ds)]))[as.length]?=some (some (.d (.tup ds))):=by
      unfold startD
      simp
    have s0:(L2.start N (ws++[V.ref p]))[as.length]?=some (some (.ref p)):=aeq (by rw [<- w1.length];simp)
    obtain ⟨rep,own⟩:=rep0.exch (i:=as.length) (b:=tupP p ds) e0 (fun _ z=>nomatch z) ⟨(fun _ z=>nomatch z),(fun _ z=>nomatch z),(fun _ z=>nomatch z)⟩ fun v ev=>by
      rw [s0] at ev;cases ev
      exact ⟨rfl,fun a m=>(nomatch m),o,rest,upd_same,oc,odd,da.mono (Ex.new gp)⟩
    rw [ah9] at rep own
    have no:∀ a,¬ Own (startD N (as++[tupP p ds])) (L2.start N (ws++[.ref p])) a:=fun a z=>no0 a ((own a).mp z)
    refine ⟨_,hd cdv A outer s2 _ E hr' hg,upd G p (.frz o (.tup rest)),so,startD N (as++[tupP p ds]),_,rep,hr as ds p QD ED al q,
      ⟨fun σ' H' G' sl' p z=>hq .non H' G' (.d .non) (pt.u.trans ⟨p.ex,p.rep.h,fun a o e sa=>p.keep a o e sa (no a),fun a n g sa=>p.frm a n g sa (no a),.non,fun _ _ e=>(nomatch e),fun _ e=>(nomatch e)⟩) (fun _ e=>(nomatch e)) z,
       fun _ _ _ _ _ z=>z.elim,fun _ _ _ _ _ z=>z.elim,
       fun v H' G' dv _ p z=>hq v H' G' dv (pt.u.trans ⟨p.ex,p.hrep,fun a o e sa=>p.keep a o e sa (no a),fun a n g sa=>p.frm a n g sa (no a),p.val,fun a o e e2=>(p.new a o e e2).elim (fun k=>k) fun k=>absurd k (no a),(agP z).1⟩) (aj9 z) (agP z).2,
       fun cls d σ' H' G' fs sl' p z1 z2=>hx cls d H' G' fs (?_:PostHU K G so H H' G') z1 z2⟩⟩
    have pn:PostU K G so H .non H' G' (.d .non):=pt.u.trans ⟨p.ex,p.rep.h,fun a o e sa=>p.keep a o e sa (no a),fun a n g sa=>p.frm a n g sa (no a),.non,fun _ _ e=>(nomatch e),fun _ e=>(nomatch e)⟩
    exact ⟨pn.ex,pn.hrep,pn.keep,pn.frm⟩
end DL
namespace DL
open PySem PySem.Spec PyProof.Rows L2 PySem.W
theorem Room.u70 {k:Nat} {A:Around} (r:Room k A):A.units + 70 < cLine:=by have:=r.un;omega
def prD (pl:Str->Nat) (s:Str):D:=.tup [.str s,.int (pl s)]
def prP (pl:Str->Nat) (s:Str):PyData:=.tuple [.str s,.int (pl s)]
theorem aoc (pl:Str->Nat):∀ ks:List Str,D.pyAll (ks.map (prD pl))=some (ks.map (prP pl))
  | []=>rfl
  | k::r=>by
    show (match (prD pl k).py,D.pyAll (r.map (prD pl)) with | some p,some ps=>some (p::ps) | _,_=>none)=_
    rw [aoc pl r];rfl
theorem pr_lt {pl:Str->Nat} {x y:Str} (h:dataLt (prP pl y) (prP pl x)=false):leS x y:=by
  refine aek.mpr ?_
  by_cases e:y.cps.toList=x.cps.toList
  · rw [e];exact List.le_refl _
  · have h2:PyProof.Rows.lexLt itemOrd (.inl 1::.inr y.cps.toList::(keyToksAll [.int (pl y)])) (.inl 1::.inr x.cps.toList::(keyToksAll [.int (pl x)]))=false:=h
    rw [lex_self,lex_diff (fun z=>e (Sum.inr.inj z))] at h2
    have h3:decide (y.cps.toList < x.cps.toList)=false:=h2
    exact List.not_lt.mp (of_decide_eq_false h3)
theorem ajN {α β γ:Type} (f:α->β) (g:α->γ):∀ ks:List α,(ks.map f).zip (ks.map g)=ks.map fun s=>(f s,g s)
  | []=>rfl
  | k::r=>by rw [List.map_cons,List.map_cons,List.zip_cons_cons,ajN f g r,List.map_cons]
theorem akk {α β:Type} {f:α->β} {inv:β->α} (hi:∀ a,inv (f a)=a) {zs:List β} {ks:List α} (h:zs.Perm (ks.map f)):∃ ms:List α,zs=ms.map f/\ms.Perm ks:=by
  refine ⟨zs.map inv,?_,?_⟩
  · rw [List.map_map]
    conv=>lhs;rw [<- List.map_id zs]
    refine List.map_congr_left fun z hz=>?_
    obtain ⟨a,_,rfl⟩:=List.mem_map.mp (h.mem_iff.mp hz)
    show f a=f (inv (f a))
    rw [hi]
  · have:=h.map inv
    rw [List.map_map] at this
    have e:(inv ∘ f)=id:=funext hi
    rw [e,List.map_id] at this
    exact this
theorem alS {ks:List Str} (pl:Str->Nat) (so:sortedS ks=true) {v:DV} {Q:DV->Prop} (hv:v.items=some (ks.map (prD pl))) (q:Q (.own (.lst (ks.map (prD pl))))):sortAR [v] Q:=by
  unfold sortAR
  dsimp only
  rw [hv]
  dsimp only
  rw [aoc]
  dsimp only
  refine ⟨AllAlike.of fun b b'=>by simp [prP,alike,alikeAll],Sortable.tuples fun b=>⟨_,_,rfl⟩,fun p hp=>?_,fun zs hz hw=>?_⟩
  · obtain ⟨k,_,rfl⟩:=List.mem_map.mp hp
    simp [prP,PyData.depth,PyData.depthAll]
  · rw [ajN] at hz
    obtain ⟨ms,e,pm⟩:=akk (inv:=fun z:D × PyData=>match z.2 with | .tuple [.str s,_]=>s | _=>"") (f:=fun s=>(prD pl s,prP pl s)) (fun _=>rfl) hz
    subst e
    have pw:ms.Pairwise leS:=by
      rw [List.pairwise_map] at hw
      exact hw.imp fun {x y} h=>pr_lt h
    have:=aif pw (aer so) pm
    subst this
    rw [List.map_map]
    exact q
def anS (sp:SpD) (C:Addr) (m:Str) (to:TD):TD:=fun sl Q E=>to sl (fun x s1=>match pubV x with
  | .d (.ins D fs)=>D=C/\fs.lookup m=none/\sp [.d (.ins C fs)] (fun v=>Q v s1) fun cls fs=>E cls fs s1
  | _=>False) E
section
variable {X:Cx} {W:WX} {k:Nat} {f C:Addr} {sp:SpD} {m:Str} {pos apos:Pos} {o:Expr} {to:TD} {pl:Sem Bool}
theorem ala (he:DE X W o to) (c:Cls X.K C) (hm:Meth X.K C m f) (F:FnV X.prog X.w X.K X.mg X.base k f sp) (hr:Room k X.A) (hgd:X.A.guards=some []) (tk:L2N.Takes X W)
    (ht:eval (.Call (.Attribute o m apos) [] [] pos) X.env=(do
      let ov <- eval o X.env
      standAt apos.atName
      let (f,first) <- holding [ov] (getMethod ov m pl)
      callWith pos f first (backTo pos (starEach [] X.env)) (backToKw pos (keywordEach [] X.env))):=by rfl) :
    DE X W (.Call (.Attribute o m apos) [] [] pos) (anS sp C m to):=by
  refine ⟨fun pins s σ H Q I ⟨G,so,sl,Q',E,rep,q,hq,hx⟩=>?_⟩
  refine PySem.W.methodCall_KW (pl:=pl) (thn (he.run pins s σ H (fun v H1=>∃ G1 s1 fs,PostE X.K G so σ H sl v H1 G1 (.d (.ins C fs)) s1/\fs.lookup m=none/\sp [.d (.ins C fs)] (fun v=>Q' v s1) fun cls fs=>E cls fs s1) I
    ⟨G,so,sl,_,E,rep,q,fun v H1 G1 dv s1 p1 z=>?_,hx⟩) fun u s1 ⟨x,H1,I1,rx,G1,sl1,fs,p1,l,z⟩=>?_) ht
  · obtain ⟨G2,p2⟩:=p1.pub
    split at z
    · rename_i D fs ed
      obtain ⟨rfl,l,z⟩:=z
      exact ⟨G2,s1,fs,by rw [<- ed];exact p2,l,z⟩
    · exact z.elim
  · obtain ⟨a,dx,vs,ex,ea,fa⟩:=VOk.inst p1.rep.h p1.val rfl
    subst ex
    obtain rfl:u=Value.ref a:=rx
    refine getmeth_ok I1 ea c hm (fa.lookN l) ?_
    exact PySem.W.callWith_K0 (first:=[.ref a]) I1.kIn hm.kp (aj7 (us:=[.ref a]) (vs:=[.ref a]) (ds:=[.d (.ins C fs)]) F hr hgd tk I1 p1.rep (.cons rfl .nil) (.cons p1.val (fun _ e=>(nomatch e)) .nil) z (fun v H' G' dv sl' pe z'=>hq v H' G' dv sl' (p1.toPost.thenE pe) z') (hx.step p1.toPost))
end
end DL
namespace K16
open PySem PySem.Spec PyProof.Rows L2 DL
structure Tx (P:Program) (K:PySem.W.Frag) (mg:Str->Option Value) (base:Heap) (a:Nat->Addr) (d:Nat->FuncData):Prop where
  tb:∀ q∈lamFns K,LamX.TabB base mg q.1 q.2.1
  F_is_whole:FunD K "is_whole" "is_whole" (defArgs acw) (defBody acw) (defScope acw) [] [] (a aaQ) (d aaQ)
  m_is_whole:mg "is_whole"=some (.ref (a aaQ))
  F_is_number:FunD K "is_number" "is_number" (defArgs ab8) (defBody ab8) (defScope ab8) [] [] (a abj) (d abj)
  m_is_number:mg "is_number"=some (.ref (a abj))
  F_is_ratio:FunD K "is_ratio" "is_ratio" (defArgs acx) (defBody acx) (defScope acx) [] [] (a abF) (d abF)
  m_is_ratio:mg "is_ratio"=some (.ref (a abF))
  F_is_valued:FunD K "is_valued" "is_valued" (defArgs ab7) (defBody ab7) (defScope ab7) [] [] (a abP) (d abP)
  m_is_valued:mg "is_valued"=some (.ref (a abP))
  F_lowest:FunD K "lowest" "lowest" (defArgs adm) (defBody adm) (defScope adm) [] [] (a ac5) (d ac5)
  m_lowest:mg "lowest"=some (.ref (a ac5))
  F_ratio_of:FunD K "ratio_of" "ratio_of" (defArgs acv) (defBody acv) (defScope acv) [] [] (a abE) (d abE)
  m_ratio_of:mg "ratio_of"=some (.ref (a abE))
  F_plus:FunD K "plus" "plus" (defArgs afH) (defBody afH) (defScope afH) [] [] (a ae3) (d ae3)
  m_plus:mg "plus"=some (.ref (a ae3))
  F_below:FunD K "below" "below" (defArgs aef) (defBody aef) (defScope aef) [] [] (a adM) (d adM)
  m_below:mg "below"=some (.ref (a adM))
  F_is_name:FunD K "is_name" "is_name" (defArgs acL) (defBody acL) (defScope acL) [] [] (a acP) (d acP)
  m_is_name:mg "is_name"=some (.ref (a acP))
  F_is_layer:FunD K "is_layer" "is_layer" (defArgs acy) (defBody acy) (defScope acy) [.int 2] [] (a ach) (d ach)
  m_is_layer:mg "is_layer"=some (.ref (a ach))
  F_is_square:FunD K "is_square" "is_square" (defArgs abK) (defBody abK) (defScope abK) [] [] (a abQ) (d abQ)
  m_is_square:mg "is_square"=some (.ref (a abQ))
  F_first_fault:FunD K "first_fault" "first_fault" (defArgs aaX) (defBody aaX) (defScope aaX) [] [] (a abc) (d abc)
  m_first_fault:mg "first_fault"=some (.ref (a abc))
  F_checked_table:FunD K "checked_table" "checked_table" (defArgs aaN) (defBody aaN) (defScope aaN) [] [] (a aaO) (d aaO)
  m_checked_table:mg "checked_table"=some (.ref (a aaO))
  F_checked_places:FunD K "checked_places" "checked_places" (defArgs aaG) (defBody aaG) (defScope aaG) [] [] (a aaH) (d aaH)
  m_checked_places:mg "checked_places"=some (.ref (a aaH))
  F_World___init__:FunD K "__init__" "World.__init__" (defArgs aaS) (defBody aaS) (defScope aaS) [] [("cart",.non)] (a aal) (d aal)
  mk_World:Mk K (He.ga K "World") (a aal)
  F_World_size:FunD K "size" "World.size" (defArgs abO) (defBody abO) (defScope abO) [] [] (a aaZ) (d aaZ)
  pr_World_size:PropOf K (He.ga K "World") "size" (He.ma K (He.ga K "World") "size") (a aaZ)
  F_World_layers:FunD K "layers" "World.layers" (defArgs abi) (defBody abi) (defScope abi) [] [] (a aaA) (d aaA)
  pr_World_layers:PropOf K (He.ga K "World") "layers" (He.ma K (He.ga K "World") "layers") (a aaA)
  F_World_names:FunD K "names" "World.names" (defArgs abB) (defBody abB) (defScope abB) [] [] (a abh) (d abh)
  me_World_names:Meth K (He.ga K "World") "names" (a abh)
  F_World___contains__:FunD K "__contains__" "World.__contains__" (defArgs aau) (defBody aau) (defScope aau) [] [] (a aap) (d aap)
  me_World___contains__:Meth K (He.ga K "World") "__contains__" (a aap)
  F_World_place:FunD K "place" "World.place" (defArgs abA) (defBody abA) (defScope abA) [] [] (a abg) (d abg)
  me_World_place:Meth K (He.ga K "World") "place" (a abg)
  F_World_rows_of:FunD K "rows_of" "World.rows_of" (defArgs aa2) (defBody aa2) (defScope aa2) [] [] (a aaP) (d aaP)
  me_World_rows_of:Meth K (He.ga K "World") "rows_of" (a aaP)
  F_World_table:FunD K "table" "World.table" (defArgs aa8) (defBody aa8) (defScope aa8) [.str "foot"] [] (a abf) (d abf)
  me_World_table:Meth K (He.ga K "World") "table" (a abf)
  F_World_with_tables:FunD K "with_tables" "World.with_tables" (defArgs aaz) (defBody aaz) (defScope aaz) [] [] (a aat) (d aat)
  me_World_with_tables:Meth K (He.ga K "World") "with_tables" (a aat)
  F_World_part:FunD K "part" "World.part" (defArgs aa9) (defBody aa9) (defScope aa9) [] [] (a aci) (d aci)
  me_World_part:Meth K (He.ga K "World") "part" (a aci)
  F__law_source:FunD K "_law_source" "_law_source" (defArgs abw) (defBody abw) (defScope abw) [] [] (a abZ) (d abZ)
  m__law_source:mg "_law_source"=some (.ref (a abZ))
  F__law_draw:FunD K "_law_draw" "_law_draw" (defArgs abz) (defBody abz) (defScope abz) [] [] (a aas) (d aas)
  m__law_draw:mg "_law_draw"=some (.ref (a aas))
  F__law_of:FunD K "_law_of" "_law_of" (defArgs ac0) (defBody ac0) (defScope ac0) [] [] (a ab4) (d ab4)
  m__law_of:mg "_law_of"=some (.ref (a ab4))
  F__law_mixed:FunD K "_law_mixed" "_law_mixed" (defArgs abL) (defBody abL) (defScope abL) [] [] (a aaI) (d aaI)
  m__law_mixed:mg "_law_mixed"=some (.ref (a aaI))
  F__law_same:FunD K "_law_same" "_law_same" (defArgs ab9) (defBody ab9) (defScope ab9) [] [] (a abS) (d abS)
  m__law_same:mg "_law_same"=some (.ref (a abS))
  F__law_fields:FunD K "_law_fields" "_law_fields" (defArgs aby) (defBody aby) (defScope aby) [] [] (a ab0) (d ab0)
  m__law_fields:mg "_law_fields"=some (.ref (a ab0))
  F__law_ask:FunD K "_law_ask" "_law_ask" (defArgs s__law_ask) (defBody s__law_ask) (defScope s__law_ask) [] [] (a abn) (d abn)
  m__law_ask:mg "_law_ask"=some (.ref (a abn))
  F__law_low:FunD K "_law_low" "_law_low" (defArgs acz) (defBody acz) (defScope acz) [] [] (a abG) (d abG)
  m__law_low:mg "_law_low"=some (.ref (a abG))
  F__law_plus:FunD K "_law_plus" "_law_plus" (defArgs aca) (defBody aca) (defScope aca) [] [] (a abT) (d abT)
  m__law_plus:mg "_law_plus"=some (.ref (a abT))
  F__law_less:FunD K "_law_less" "_law_less" (defArgs acd) (defBody acd) (defScope acd) [] [] (a abW) (d abW)
  m__law_less:mg "_law_less"=some (.ref (a abW))
  F__law_least:FunD K "_law_least" "_law_least" (defArgs abN) (defBody abN) (defScope abN) [] [] (a abt) (d abt)
  m__law_least:mg "_law_least"=some (.ref (a abt))
  F__law_names:FunD K "_law_names" "_law_names" (defArgs aa6) (defBody aa6) (defScope aa6) [] [] (a abr) (d abr)
  m__law_names:mg "_law_names"=some (.ref (a abr))
  F__law_length:FunD K "_law_length" "_law_length" (defArgs abx) (defBody abx) (defScope abx) [] [] (a abd) (d abd)
  m__law_length:mg "_law_length"=some (.ref (a abd))
  F__law_closed:FunD K "_law_closed" "_law_closed" (defArgs aa7) (defBody aa7) (defScope aa7) [] [] (a abe) (d abe)
  m__law_closed:mg "_law_closed"=some (.ref (a abe))
  F__law_table:FunD K "_law_table" "_law_table" (defArgs abo) (defBody abo) (defScope abo) [] [] (a abq) (d abq)
  m__law_table:mg "_law_table"=some (.ref (a abq))
  F__law_spread_plan:FunD K "_law_spread_plan" "_law_spread_plan" (defArgs aaq) (defBody aaq) (defScope aaq) [] [] (a aav) (d aav)
  m__law_spread_plan:mg "_law_spread_plan"=some (.ref (a aav))
  F__law_made:FunD K "_law_made" "_law_made" (defArgs abM) (defBody abM) (defScope abM) [] [] (a abV) (d abV)
  m__law_made:mg "_law_made"=some (.ref (a abV))
  F__law_told:FunD K "_law_told" "_law_told" (defArgs abv) (defBody abv) (defScope abv) [] [] (a abR) (d abR)
  m__law_told:mg "_law_told"=some (.ref (a abR))
  F__law_part:FunD K "_law_part" "_law_part" (defArgs acb) (defBody acb) (defScope acb) [] [] (a abU) (d abU)
  m__law_part:mg "_law_part"=some (.ref (a abU))
  F_law:FunD K "law" "law" (defArgs adG) (defBody adG) (defScope adG) [] [] (a ag3) (d ag3)
  m_World:mg "World"=some (.ref (He.ga K "World"))
  cl_World:Cls K (He.ga K "World")
  na_World_own_tables:NoAttr K (He.ga K "World") "own_tables"
  na_World_own_names:NoAttr K (He.ga K "World") "own_names"
  t_LAYERS:GlobT K mg "LAYERS" ([.str "foot",.str "cart"])
  x_InvalidRatio:XCls P K mg (He.ga K "InvalidRatio") ["given"] acl
  xe_InvalidRatio:ErrC K (csA K) (He.ga K "InvalidRatio")
  x_InvalidTable:XCls P K mg (He.ga K "InvalidTable") ["layer"] adB
  xe_InvalidTable:ErrC K (csA K) (He.ga K "InvalidTable")
  x_InvalidWay:XCls P K mg (He.ga K "InvalidWay") ["layer","start","goal"] aen
  xe_InvalidWay:ErrC K (csA K) (He.ga K "InvalidWay")
  x_TooMany:XCls P K mg (He.ga K "TooMany") ["subject","most"] adU
  xe_TooMany:ErrC K (csA K) (He.ga K "TooMany")
  x_InvalidName:XCls P K mg (He.ga K "InvalidName") ["given"] acE
  xe_InvalidName:ErrC K (csA K) (He.ga K "InvalidName")
  x_InvalidPlace:XCls P K mg (He.ga K "InvalidPlace") ["given"] acm
  xe_InvalidPlace:ErrC K (csA K) (He.ga K "InvalidPlace")
  x_UnknownName:XCls P K mg (He.ga K "UnknownName") ["name"] acD
  xe_UnknownName:ErrC K (csA K) (He.ga K "UnknownName")
  x_InvalidLayer:XCls P K mg (He.ga K "InvalidLayer") ["given"] acn
  xe_InvalidLayer:ErrC K (csA K) (He.ga K "InvalidLayer")
  x_InvalidNumber:XCls P K mg (He.ga K "InvalidNumber") ["given"] ab5
  xe_InvalidNumber:ErrC K (csA K) (He.ga K "InvalidNumber")
  m_InvalidRatio:mg "InvalidRatio"=some (.ref (He.ga K "InvalidRatio"))
  m_InvalidTable:mg "InvalidTable"=some (.ref (He.ga K "InvalidTable"))
  m_InvalidWay:mg "InvalidWay"=some (.ref (He.ga K "InvalidWay"))
  m_TooMany:mg "TooMany"=some (.ref (He.ga K "TooMany"))
  m_InvalidName:mg "InvalidName"=some (.ref (He.ga K "InvalidName"))
  m_InvalidPlace:mg "InvalidPlace"=some (.ref (He.ga K "InvalidPlace"))
  m_UnknownName:mg "UnknownName"=some (.ref (He.ga K "UnknownName"))
  m_InvalidLayer:mg "InvalidLayer"=some (.ref (He.ga K "InvalidLayer"))
  m_InvalidNumber:mg "InvalidNumber"=some (.ref (He.ga K "InvalidNumber"))
  m_MilesError:mg "MilesError"=some (.ref (He.ga K "MilesError"))
  m_Missing:mg "Missing"=some (.ref (He.ga K "Missing"))
  m_NothingLeft:mg "NothingLeft"=some (.ref (He.ga K "NothingLeft"))
  n_abs:mg "abs"=none
  n_all:mg "all"=none
  n_any:mg "any"=none
  n_bool:mg "bool"=none
  n_dict:mg "dict"=none
  n_enumerate:mg "enumerate"=none
  n_int:mg "int"=none
  n_isinstance:mg "isinstance"=none
  n_len:mg "len"=none
  n_list:mg "list"=none
  n_range:mg "range"=none
  n_repr:mg "repr"=none
  n_sorted:mg "sorted"=none
  n_str:mg "str"=none
  n_super:mg "super"=none
  n_tuple:mg "tuple"=none
  b_gcd:mg "gcd"=some (.builtin "math.gcd")
  c_ZERO:GlobD K mg "ZERO" (.tup [.int 0,.int 1])
  c_LETTERS:GlobD K mg "LETTERS" (.str "abcdefghijklmnopqrstuvwxyz")
  c_LAYERS:GlobD K mg "LAYERS" (.tup [.str "foot",.str "cart"])
  c_MOST_NAMED:GlobD K mg "MOST_NAMED" (.int 5)
  c_MOST_PLACES:GlobD K mg "MOST_PLACES" (.int 9)
theorem ajk (ns:List Int) (lo hi:Option Int):cutV (ns.map V.int) lo hi=(cut ns lo hi).map V.int:=by
  unfold cutV cut
  rw [List.length_map,List.map_take,List.map_drop]
theorem ah2 {α:Type} {xs:List α} {n:Int} (h0:0<=n) (h1:n < (xs.length:Int)):∃ x,atI xs n=some x/\x∈xs:=by
  have hj:n.toNat < xs.length:=by omega
  refine ⟨xs[n.toNat],?_,List.getElem_mem hj⟩
  unfold atI ixN
  rw [if_pos h0,if_pos h1]
  exact List.getElem?_eq_getElem hj
theorem adC {n:Nat} (h:n<=szl):(n:Int) < 2 ^ 64:=by
  have:szl=16777216:=rfl
  omega
section
variable {P:Program} {w:World} {K:PySem.W.Frag} {mg:Str->Option Value} {base:Heap} {a:Nat->Addr} {d:Nat->FuncData}
abbrev agV:List Str:=["_law_script","_law_seed","_law_cell"]
theorem acF:FnScope agV ["_law_script"] (defScope abw):=⟨rfl,rfl,rfl,by decide +kernel,rfl,by decide +kernel,by decide +kernel⟩
theorem agh (T:Tx P K mg base a d):FnR P w K mg base 1 (a abZ) (d abZ) ["_law_script"] (spSource K):=by
  refine akY T.F__law_source acF (fun vs H Q E h=>?_) (fun cdv A outer s H vs Q E hr hg h=>?_)
  · obtain ⟨c,ns,rfl,_⟩:=h;rfl
  · obtain ⟨c,ns,rfl,hS,hlen,q⟩:=h
    refine ⟨_,pss_cons (ps_set (i:=1) acF.nd rfl (.inl rfl) pe_int)
      (pss_cons (ps_for (passes_of rfl) rfl (pi_list (pe_slice sl_list (pv 0) po_none (po_some pe_int))) (pg_name (i:=2) acF.nd rfl (.inl rfl))
        (pss_one (ps_set (i:=1) acF.nd rfl (.inl rfl) (pe_op op_mod (pe_callTy call_int1 (by rfl) T.n_int (by decide +kernel) (pa_cons (pe_op op_add (pe_op op_add (pe_op op_mul (pv 1) pe_int) (pe_op op_mod (pe_callTy call_int1 (by rfl) T.n_int (by decide +kernel) (pa_cons (pv 2) pa_nil)) pe_int)) pe_int) pa_nil)) pe_int))))
      (pss_one (ps_ret (pe_lst (pa_cons (pe_callTy call_list_of (by rfl) T.n_list (by decide +kernel) (pa_cons (pe_slice sl_list (pv 0) po_none (po_some pe_int)) pa_nil)) (pa_cons pe_int (pa_cons pe_int (pa_cons (pv 1) (pa_cons pe_int pa_nil))))))))),?_⟩
    refine ⟨.ref c,rfl,63,rfl,c,ns.map V.int,rfl,hS,fun l nl=>⟨l,rfl,⟨_,SqL.of upd_same⟩,?_⟩⟩
    refine for_list (K:=K) (a:=l) (xs:=cutV (ns.map V.int) none (some 63)) (fun i σ H2=>∃ sd v,σ=[some (.ref c),some (.int sd),v]/\Ex H H2/\H2 l=some (.lst (cutV (ns.map V.int) none (some 63)))/\0<=sd/\sd < 4294967296) ⟨10040,none,rfl,Ex.new nl,upd_same,by decide,by decide⟩ (fun i σ H2 _ ⟨_,_,_,_,e,_⟩=>SqL.of e) ?_ ?_
    · rintro i y σ H2 hi ⟨sd,v,rfl,ex,el,h0,h1⟩
      obtain ⟨z,rfl⟩:∃ z,y=V.int z:=by
        rw [ajk,List.getElem?_map] at hi
        cases e:(cut ns none (some 63))[i]? with
        | none=>rw [e] at hi;cases hi
        | some z=>rw [e] at hi;exact ⟨z,(Option.some.inj hi).symm⟩
      refine ⟨_,rfl,_,_,rfl,rfl,.inr ⟨by decide,by decide⟩,_,rfl,.inl ⟨z,rfl,_,_,rfl,rfl,(by show (0:Int) < 2147483353;decide),_,_,rfl,rfl,_,_,rfl,rfl,.inl ⟨_,rfl,_,_,rfl,rfl,(by show (0:Int) < 2147483587;decide),?_⟩⟩⟩
      refine ⟨_,_,rfl,ex,el,Int.emod_nonneg _ (by decide),Int.lt_trans (Int.emod_lt_of_pos _ (by decide)) (by decide)⟩
    · rintro σ H2 ⟨sd,v,rfl,ex,el,h0,h1⟩
      refine ⟨.ref c,rfl,63,rfl,c,ns.map V.int,rfl,ex_l ex hS,fun l2 n2=>⟨l2,_,rfl,.inl (SqL.of upd_same),fun l3 n3=>?_⟩⟩
      refine ⟨.int sd,rfl,by show 5<=sizeLine;decide,fun p np=>?_⟩
      have n23:H2 l3=none:=(Ex.new (o:=.lst (cutV (ns.map V.int) none (some 63))) n2).free n3
      have e3:Ex H2 (upd (upd (upd H2 l2 (.lst (cutV (ns.map V.int) none (some 63)))) l3 (.lst (cutV (ns.map V.int) none (some 63)))) p (.lst [.ref l3,.int 0,.int 0,.int sd,.int 0])):=(Ex.new n2).trans ((Ex.new n3).trans (Ex.new np))
      have ne:l3≠p:=fun e=>by subst e;rw [upd_same] at np;cases np
      refine q _ p l3 (cut ns none (some 63)) sd (ex.trans e3) ne upd_same (by rw [upd_ne ne,upd_same,ajk]) ?_ h0 h1
      exact Nat.le_trans (by unfold cut;rw [List.length_take,List.length_drop];omega) hlen
abbrev n__law_draw:List Str:=["_law_src","_law_many","_law_cell","_law_digit","_law_root","_law_grown"]
theorem acK:FnScope n__law_draw ["_law_src","_law_many"] (defScope abz):=⟨rfl,rfl,rfl,by decide +kernel,rfl,by decide +kernel,by decide +kernel⟩
def SrcAt (p:Addr) (H H2:Hp) (c:Addr) (i r sd n:Int):Prop:=(∀ b,b≠p->H2 b=H b)/\H2 p=some (.lst [.ref c,.int i,.int r,.int sd,.int n])/\0<=i/\0<=r/\0<=sd/\sd < 4294967296
theorem ajQ {m:Int} (h0:0 < m) (h:m < 2 ^ 64):m.natAbs.log2 < 9000:=by
  have:m.natAbs.log2 < 64:=(Nat.log2_lt (by omega)).mpr (by omega)
  omega
theorem aiZ {x m:Int} (h0:0 < m) (h:m<=4294967296):(-(2 ^ 64) < x % m/\x % m < 2 ^ 64)/\0<=x % m/\x % m < m:=by
  have h1:=Int.emod_nonneg x (show m≠0 by omega)
  have h2:=Int.emod_lt_of_pos x h0
  exact ⟨⟨by omega,by omega⟩,h1,h2⟩
theorem acM (T:Tx P K mg base a d):FnG P w K mg base 1 (a aas) (d aas) ["_law_src","_law_many"] spDraw:=by
  refine FnR.g (akY T.F__law_draw acK (fun vs H Q E h=>?_) (fun cdv A outer s H vs Q E hr hg h=>?_)) (fun args Q E h=>?_)
  · obtain ⟨G,so,as,QD,ED,_,w1,⟨m,rfl,_⟩,_⟩:=h
    exact w1.length
  · obtain ⟨G,so,as,QD,ED,hrep,w1,⟨m,rfl,hm0,hm1,hq⟩,hQ,_⟩:=h
    obtain ⟨v1,v2,rfl,⟨p,⟨c,hps⟩,rfl⟩,wm,_⟩:=w1.v2
    cases wm
    obtain ⟨gp,ms,i0,r0,sd0,n0,hp,hc,hms,hi0,hr0,hs0,hs1⟩:SrcOk K G H p c:=hrep.vol p (.src c) hps
    have fin:∀ (H2:Hp) (i r sd n k:Int),SrcAt p H H2 c i r sd n->0<=k->k < m->Q (.int k) H2:=fun H2 i r sd n k ⟨e1,e2,e3,e4,e5,e6⟩ k0 k1=>by
      refine hQ (.int k) H2 G (.d (.int k)) ⟨Ex.refl G,⟨fun b o e=>?_,fun b kd e=>?_,hrep.ok,fun b xs e=>?_⟩,fun b o e sb=>?_,fun _ _ g _=>g,.int k,fun _ _ z=>(nomatch z),fun _ z=>(nomatch z)⟩ (hq k k0 k1)
      · rw [e1 b (fun z=>by subst z;rw [gp] at e;cases e)];exact hrep.ex b o e
      · by_cases z:b=p
        · subst z
          obtain rfl:=hrep.ok.uq _ _ _ e hps
          exact ⟨gp,ms,i,r,sd,n,e2,hc,hms,e3,e4,e5,e6⟩
        · exact (hrep.vol b kd e).keep (Ex.refl G) (hrep.vol b kd e).g (e1 b z)
      · by_cases z:b=p
        · subst z;rw [e2] at e;cases e
        · rw [e1 b z] at e;exact hrep.tp b xs e
      · rw [e1 b (fun z=>by subst z;obtain ⟨_,q⟩:=sb (.src c) hps;cases q)];exact e
    have cells:∀ {H2:Hp},(∀ b,b≠p->H2 b=H b)->SqL K H2 c (ms.map V.int):=fun {H2} e1=>ex_l (fun b o e=>by
      rw [e1 b (fun z=>by subst z;rw [gp] at e;cases e)];exact hrep.ex b o e) hc
    obtain ⟨t2,pt2,key⟩:∃ t2,PSs (cxOf (L2N.CX P w) P w K mg base n__law_draw "_law_draw" (defScope abz) (a aas) cdv A outer s H E) ((defBody abz).drop 1) t2/\
        ∀ (H2:Hp) (i r sd n:Int) (y:Option V),SrcAt p H H2 c i r sd n->t2 { nx:=fun _ H'=>Q .non H',rt:=Q } [some (.ref p),some (.int m),y,none,none,none] H2:=by
      refine ⟨_,pss_cons (ps_if (pt_cmpR op_ge (pe_ix ix_list (pv 0) pe_int (fun _ _=>rfl)) (pv 1) (nomark _))
          (pss_cons (ps_set (i:=3) acK.nd rfl (.inl rfl) (pe_op op_mod (pe_callTy call_int1 (by rfl) T.n_int (by decide +kernel) (pa_cons (pe_ix ix_list (pv 0) pe_int (fun _ _=>rfl)) pa_nil)) (pv 1)))
          (pss_cons (ps_asg (pe_op op_fdivW (pe_ix ix_list (pv 0) pe_int (fun _ _=>rfl)) (pv 1)) (pg_sub (pv 0) pe_int set_list))
          (pss_one (ps_ret (pv 3))))) pss_nil)
        (pss_cons (ps_asg (pe_op op_add (pe_ix ix_list (pv 0) pe_int (fun _ _=>rfl)) pe_int) (pg_sub (pv 0) pe_int set_list))
        (pss_cons (ps_set (i:=4) acK.nd rfl (.inl rfl) (pe_op op_mod (pe_callTy call_int1 (by rfl) T.n_int (by decide +kernel) (pa_cons (pe_op op_add (pe_ix ix_list (pv 0) pe_int (fun _ _=>rfl)) (pe_op op_mul (pe_ix ix_list (pv 0) pe_int (fun _ _=>rfl)) pe_int)) pa_nil)) pe_int))
        (pss_cons (ps_set (i:=5) acK.nd rfl (.inl rfl) (pe_op op_mul (pe_op op_mod (pe_callTy call_int1 (by rfl) T.n_int (by decide +kernel) (pa_cons (pe_op op_mul (pv 4) (pv 4)) pa_nil)) pe_int) (pe_op op_add (pe_op op_mod (pe_callTy call_int1 (by rfl) T.n_int (by decide +kernel) (pa_cons (pv 4) pa_nil)) pe_int) pe_int)))
        (pss_cons (ps_asg (pe_op op_mod (pe_callTy call_int1 (by rfl) T.n_int (by decide +kernel) (pa_cons (pe_op op_add (pe_op op_add (pv 5) (pe_op op_mul pe_int (pv 4))) pe_int) pa_nil)) pe_int) (pg_sub (pv 0) pe_int set_list))
        (pss_one (ps_ret (pe_op op_mod (pe_callTy call_int1 (by rfl) T.n_int (by decide +kernel) (pa_cons (pe_op op_add (pe_op op_fdiv (pe_ix ix_list (pv 0) pe_int (fun _ _=>rfl)) pe_int) (pe_op op_mul (pe_op op_mod (pe_callTy call_int1 (by rfl) T.n_int (by decide +kernel) (pa_cons (pe_ix ix_list (pv 0) pe_int (fun _ _=>rfl)) pa_nil)) pe_int) pe_int)) pa_nil)) (pv 1)))))))),?_⟩
      rintro H2 i r sd n y ⟨e1,e2,e3,e4,e5,e6⟩
      have e2L:SqL K H2 p [.ref c,.int i,.int r,.int sd,.int n]:=SqL.of e2
      refine ⟨.ref p,rfl,p,_,2,.int r,rfl,rfl,e2L,rfl,.int m,rfl,r,m,rfl,rfl,_,rfl,ite2 (fun h=>?_) (fun h=>?_)⟩
      · have hrm:m<=r:=of_decide_eq_true h
        refine ⟨.ref p,rfl,p,_,2,.int r,rfl,rfl,e2L,rfl,.inl ⟨r,rfl,.int m,rfl,r,m,rfl,rfl,hm0,?_⟩⟩
        refine ⟨.ref p,rfl,p,_,2,.int r,rfl,rfl,e2L,rfl,.int m,rfl,r,m,rfl,rfl,⟨hm0,ajQ hm0 hm1⟩,.ref p,rfl,p,_,2,2,rfl,rfl,e2,rfl,?_⟩
        refine ⟨.int (r % m),rfl,?_⟩
        refine fin _ i (r / m) sd n (r % m) ⟨fun b hb=>by rw [upd_ne hb];exact e1 b hb,upd_same,e3,Int.ediv_nonneg e4 (by omega),e5,e6⟩ (Int.emod_nonneg _ (by omega)) (Int.emod_lt_of_pos _ hm0)
      · refine ⟨.ref p,rfl,p,_,4,.int n,rfl,rfl,e2L,rfl,n,1,rfl,rfl,.ref p,rfl,p,_,4,4,rfl,rfl,e2,rfl,?_⟩
        have e3L:SqL K (upd H2 p (.lst ([V.ref c,.int i,.int r,.int sd,.int n].set 4 (.int (n + 1))))) p [.ref c,.int i,.int r,.int sd,.int (n + 1)]:=SqL.of upd_same
        refine ⟨.ref p,rfl,p,_,3,.int sd,rfl,rfl,e3L,rfl,.ref p,rfl,p,_,4,.int (n + 1),rfl,rfl,e3L,rfl,n + 1,9431,rfl,rfl,.inr ⟨by decide,by decide⟩,sd,_,rfl,rfl,.inl ⟨_,rfl,_,2147483629,rfl,rfl,(by show (0:Int) < 2147483629;decide),?_⟩⟩
        obtain ⟨q1,q2,q3⟩:=aiZ (x:=sd + (n + 1) * 9431) (m:=2147483629) (by decide) (by decide)
        refine ⟨_,rfl,_,rfl,_,_,rfl,rfl,.inl q1,.inl ⟨_,rfl,_,2147483399,rfl,rfl,(by show (0:Int) < 2147483399;decide),_,rfl,.inl ⟨_,rfl,_,39989,rfl,rfl,(by show (0:Int) < 39989;decide),_,9,rfl,rfl,_,_,rfl,rfl,.inl (aiZ (by decide) (by decide)).1,?_⟩⟩⟩
        refine ⟨_,rfl,_,rfl,29989,_,rfl,rfl,.inl ⟨by decide,by decide⟩,_,_,rfl,rfl,_,991,rfl,rfl,.inl ⟨_,rfl,_,2147483549,rfl,rfl,(by show (0:Int) < 2147483549;decide),.ref p,rfl,p,_,3,3,rfl,rfl,upd_same,rfl,?_⟩⟩
        generalize hg2:((sd + (n + 1) * 9431) % 2147483629 * ((sd + (n + 1) * 9431) % 2147483629) % 2147483399 * ((sd + (n + 1) * 9431) % 2147483629 % 39989 + 9) + 29989 * ((sd + (n + 1) * 9431) % 2147483629) + 991) % 2147483549=sd2
        have s2:0<=sd2:=by rw [<- hg2];exact Int.emod_nonneg _ (by decide)
        have s3:sd2 < 4294967296:=by rw [<- hg2];exact Int.lt_trans (Int.emod_lt_of_pos _ (by decide)) (by decide)
        dsimp only
        rw [hg2,upd_upd]
        have e4L:SqL K (upd H2 p (.lst (([V.ref c,.int i,.int r,.int sd,.int n].set 4 (.int (n + 1))).set 3 (.int sd2)))) p [.ref c,.int i,.int r,.int sd2,.int (n + 1)]:=SqL.of upd_same
        refine ⟨.ref p,rfl,p,_,3,.int sd2,rfl,rfl,e4L,rfl,sd2,73,rfl,rfl,⟨by decide,by decide⟩,.ref p,rfl,p,_,3,.int sd2,rfl,rfl,e4L,rfl,.inl ⟨sd2,rfl,sd2,8521,rfl,rfl,(by show (0:Int) < 8521;decide),_,57,rfl,rfl,.inr ⟨by decide,by decide⟩,_,_,rfl,rfl,.inl ⟨_,rfl,.int m,rfl,_,m,rfl,rfl,hm0,?_⟩⟩⟩
        exact fin _ i r sd2 (n + 1) _ ⟨fun b hb=>by rw [upd_ne hb];exact e1 b hb,upd_same,e3,e4,s2,s3⟩ (Int.emod_nonneg _ (by omega)) (Int.emod_lt_of_pos _ hm0)
    refine ⟨_,pss_cons (ps_if (PW.pt (pw_and (pt_cmpR op_lt (pe_ix ix_list (pv 0) pe_int (fun _ _=>rfl)) (pv 1) (nomark _)) (pw_and1 (pt_cmpR op_lt (pe_ix ix_list (pv 0) pe_int (fun _ _=>rfl)) (pe_callB call_len_seq (by rfl) T.n_len PySem.boot_len (pa_cons (pe_ix ix_list (pv 0) pe_int (fun _ _=>rfl)) pa_nil)) (nomark _)))))
        (pss_cons (ps_set (i:=2) acK.nd rfl (.inl rfl) (pe_ix ix_list (pe_ix ix_list (pv 0) pe_int (fun _ _=>rfl)) (pe_ix ix_list (pv 0) pe_int (fun _ _=>rfl)) (fun _ _=>rfl)))
        (pss_cons (ps_asg (pe_op op_add (pe_ix ix_list (pv 0) pe_int (fun _ _=>rfl)) pe_int) (pg_sub (pv 0) pe_int set_list))
        (pss_cons (ps_asg (pe_op op_mod (pe_callTy call_int1 (by rfl) T.n_int (by decide +kernel) (pa_cons (pe_op op_add (pe_op op_add (pe_op op_mul (pe_ix ix_list (pv 0) pe_int (fun _ _=>rfl)) pe_int) (pe_op op_mod (pe_callTy call_int1 (by rfl) T.n_int (by decide +kernel) (pa_cons (pv 2) pa_nil)) pe_int)) pe_int) pa_nil)) pe_int) (pg_sub (pv 0) pe_int set_list))
        (pss_one (ps_asg (pe_ifExp (pt_cmpR op_ge (pv 2) (pe_op op_pow pe_int pe_int) (nomark _)) (pv 2) pe_int) (pg_sub (pv 0) pe_int set_list)))))) pss_nil) pt2,?_⟩
    have hpL:SqL K H p [.ref c,.int i0,.int r0,.int sd0,.int n0]:=SqL.of hp
    have S0:SrcAt p H H c i0 r0 sd0 n0:=⟨fun _ _=>rfl,hp,hi0,hr0,hs0,hs1⟩
    refine ⟨.ref p,rfl,p,_,2,.int r0,rfl,rfl,hpL,rfl,.int m,rfl,r0,m,rfl,rfl,_,rfl,ite2 (fun h=>?_) (fun h=>?_)⟩
    · refine ⟨.ref p,rfl,p,_,1,.int i0,rfl,rfl,hpL,rfl,.ref p,rfl,p,_,0,.ref c,rfl,rfl,hpL,rfl,c,ms.map V.int,rfl,.inl (cells fun _ _=>rfl),i0,_,rfl,rfl,_,rfl,ite2 (fun h2=>?_) (fun h2=>?_)⟩
      · have hlt:i0 < ((ms.map V.int).length:Int):=of_decide_eq_true h2
        rw [List.length_map] at hlt
        have hj:i0.toNat < ms.length:=by omega
        have atc:atI (ms.map V.int) i0=some (.int ms[i0.toNat]):=at_of (j:=i0.toNat) (by omega) (by rw [List.getElem?_map,List.getElem?_eq_getElem hj];rfl)
        generalize ms[i0.toNat]=z at atc
        refine ⟨.ref p,rfl,p,_,0,.ref c,rfl,rfl,hpL,rfl,.ref p,rfl,p,_,1,.int i0,rfl,rfl,hpL,rfl,c,_,i0,.int z,rfl,rfl,cells (fun _ _=>rfl),atc,?_⟩
        refine ⟨.ref p,rfl,p,_,1,.int i0,rfl,rfl,hpL,rfl,i0,1,rfl,rfl,.ref p,rfl,p,_,1,1,rfl,rfl,hp,rfl,?_⟩
        have e3L:SqL K (upd H p (.lst ([V.ref c,.int i0,.int r0,.int sd0,.int n0].set 1 (.int (i0 + 1))))) p [.ref c,.int (i0 + 1),.int r0,.int sd0,.int n0]:=SqL.of upd_same
        refine ⟨.ref p,rfl,p,_,3,.int sd0,rfl,rfl,e3L,rfl,sd0,46757,rfl,rfl,.inr ⟨by decide,by decide⟩,.int z,rfl,.inl ⟨z,rfl,z,2147483323,rfl,rfl,(by show (0:Int) < 2147483323;decide),_,_,rfl,rfl,_,31,rfl,rfl,.inl ⟨_,rfl,_,2147483549,rfl,rfl,(by show (0:Int) < 2147483549;decide),.ref p,rfl,p,_,3,3,rfl,rfl,upd_same,rfl,?_⟩⟩⟩
        generalize hg2:(sd0 * 46757 + z % 2147483323 + 31) % 2147483549=sd2
        have s2:0<=sd2:=by rw [<- hg2];exact Int.emod_nonneg _ (by decide)
        have s3:sd2 < 4294967296:=by rw [<- hg2];exact Int.lt_trans (Int.emod_lt_of_pos _ (by decide)) (by decide)
        dsimp only
        rw [hg2,upd_upd]
        refine ⟨.int z,rfl,10,18,rfl,rfl,⟨by decide,by decide,by decide⟩,z,_,rfl,rfl,_,rfl,ite2 (fun h3=>?_) (fun h3=>?_)⟩
        · have hz:(10:Int) ^ (18:Int).toNat<=z:=of_decide_eq_true h3
          refine ⟨.int z,rfl,.ref p,rfl,p,_,2,2,rfl,rfl,upd_same,rfl,?_⟩
          rw [upd_upd]
          exact key _ (i0 + 1) z sd2 n0 (some (.int z)) ⟨fun b hb=>upd_ne hb,upd_same,by omega,Int.le_trans (by decide) hz,s2,s3⟩
        · refine ⟨.ref p,rfl,p,_,2,2,rfl,rfl,upd_same,rfl,?_⟩
          rw [upd_upd]
          exact key _ (i0 + 1) 0 sd2 n0 (some (.int z)) ⟨fun b hb=>upd_ne hb,upd_same,by omega,by decide,s2,s3⟩
      · exact key H i0 r0 sd0 n0 none S0
    · refine iteF ?_
      exact key H i0 r0 sd0 n0 none S0
  · obtain ⟨m,rfl,_⟩:=h;rfl
theorem aeO (T:Tx P K mg base a d):Bd K (d aal) ["self","names","foot","cart"] 3 [] [.pos 0,.pos 1,.pos 2,.dfl (.non) (.non)]:=
  aoR T.F_World___init__ [("cart",.non)] (by simp) (by simp) (fun us mv ws=>match us,mv,ws with | [u0,u1,u2],[m0],[]=>[u0,u1,u2,m0] | _,_,_=>[])
    (fun {vs mz zs us mv ws} r1 r2 r3=>by
    rcases r1 with _ | ⟨a0,r1⟩<;>(try rcases r1 with _ | ⟨a1,r1⟩)<;>(try rcases r1 with _ | ⟨a2,r1⟩)<;>(try rcases r1 with _ | ⟨a3,r1⟩)<;>(try rcases r1 with _ | ⟨a4,r1⟩)<;>rcases r2 with _ | ⟨b0,r2⟩<;>(try rcases r2 with _ | ⟨b1,r2⟩)<;>(try rcases r2 with _ | ⟨b2,r2⟩)<;>rcases r3 with _ | ⟨c0,r3⟩<;>(try rcases r3 with _ | ⟨c1,r3⟩)<;>(try rcases r3 with _ | ⟨c2,r3⟩)<;>(try rcases r3 with _ | ⟨c3,r3⟩)<;>first | exact .nil | (repeat (first | exact .nil | refine .cons (by assumption) ?_)))
    (fun _ _ _ _ _ _ us mv ws h1 h2 h3=>match us,mv,ws,h1,h2,h3 with | [_,_,_],[_],[],_,_,_=>⟨_,_,_,_,_,_,rfl,rfl,rfl⟩)
    (fun vs qs h1 h2=>match vs,qs,h1,h2 with | [_,_,_],[],_,_=>rfl) (fun s h v d e=>by subst e;simp at h;first | (obtain ⟨rfl,rfl⟩:=h;intro G;(first | exact .int _ | exact .bl _ | exact .str _ | exact .non);done) | (rcases h with ⟨rfl,rfl⟩ | ⟨rfl,rfl⟩<;>intro G<;>first | exact .int _ | exact .bl _ | exact .str _ | exact .non))
theorem acq (T:Tx P K mg base a d):Bd K (d aal) ["self","names","foot","cart"] 3 ["cart"] [.pos 0,.pos 1,.pos 2,.kw 0]:=
  aoR T.F_World___init__ [] (by simp) (by simp) (fun us mv ws=>match us,mv,ws with | [u0,u1,u2],[],[w0]=>[u0,u1,u2,w0] | _,_,_=>[])
    (fun {vs mz zs us mv ws} r1 r2 r3=>by
    rcases r1 with _ | ⟨a0,r1⟩<;>(try rcases r1 with _ | ⟨a1,r1⟩)<;>(try rcases r1 with _ | ⟨a2,r1⟩)<;>(try rcases r1 with _ | ⟨a3,r1⟩)<;>(try rcases r1 with _ | ⟨a4,r1⟩)<;>rcases r2 with _ | ⟨b0,r2⟩<;>(try rcases r2 with _ | ⟨b1,r2⟩)<;>(try rcases r2 with _ | ⟨b2,r2⟩)<;>rcases r3 with _ | ⟨c0,r3⟩<;>(try rcases r3 with _ | ⟨c1,r3⟩)<;>(try rcases r3 with _ | ⟨c2,r3⟩)<;>(try rcases r3 with _ | ⟨c3,r3⟩)<;>first | exact .nil | (repeat (first | exact .nil | refine .cons (by assumption) ?_)))
    (fun _ _ _ _ _ _ us mv ws h1 h2 h3=>match us,mv,ws,h1,h2,h3 with | [_,_,_],[],[_],_,_,_=>rfl)
    (fun vs qs h1 h2=>match vs,qs,h1,h2 with | [_,_,_],[_],_,_=>rfl) (fun s h v d e=>by subst e;simp at h)
theorem af4 (T:Tx P K mg base a d):Bd K (d abh) ["self"] 1 [] [.pos 0]:=
  ab2 T.F_World_names (fun us ws=>match us,ws with | [u0],[]=>[u0] | _,_=>[])
    (fun _ _ _ _ _ _ us ws h1 h2=>match us,ws,h1,h2 with | [_],[],_,_=>rfl)
    (fun vs qs us ws h1 h2 r1 r2=>match vs,us,qs,ws,h1,h2,r1,r2 with | _,[_],_,[],_,_,.cons u0 .nil,.nil=>.cons u0 .nil) (fun s h v d e=>by subst e;simp at h)
theorem af3 (T:Tx P K mg base a d):Bd K (d abg) ["self","name"] 2 [] [.pos 0,.pos 1]:=
  ab2 T.F_World_place (fun us ws=>match us,ws with | [u0,u1],[]=>[u0,u1] | _,_=>[])
    (fun _ _ _ _ _ _ us ws h1 h2=>match us,ws,h1,h2 with | [_,_],[],_,_=>rfl)
    (fun vs qs us ws h1 h2 r1 r2=>match vs,us,qs,ws,h1,h2,r1,r2 with | _,[_,_],_,[],_,_,.cons u0 (.cons u1 .nil),.nil=>.cons u0 (.cons u1 .nil)) (fun s h v d e=>by subst e;simp at h)
theorem aeY (T:Tx P K mg base a d):Bd K (d aaP) ["self","layer"] 2 [] [.pos 0,.pos 1]:=
  ab2 T.F_World_rows_of (fun us ws=>match us,ws with | [u0,u1],[]=>[u0,u1] | _,_=>[])
    (fun _ _ _ _ _ _ us ws h1 h2=>match us,ws,h1,h2 with | [_,_],[],_,_=>rfl)
    (fun vs qs us ws h1 h2 r1 r2=>match vs,us,qs,ws,h1,h2,r1,r2 with | _,[_,_],_,[],_,_,.cons u0 (.cons u1 .nil),.nil=>.cons u0 (.cons u1 .nil)) (fun s h v d e=>by subst e;simp at h)
theorem af2 (T:Tx P K mg base a d):Bd K (d abf) ["self","layer"] 2 [] [.pos 0,.pos 1]:=
  amA T.F_World_table (by simp) (fun us ws its=>match us,ws,its with | [u0,u1],[],[t0]=>[u0,u1] | _,_,_=>[])
    (fun _ _ _ _ _ _ _ us ws its h1 h2 h3=>match us,ws,its,h1,h2,h3 with | [_,_],[],[_],_,_,_=>⟨_,rfl,rfl⟩)
    (fun vs qs us ws its h1 h2 r1 r2 r3=>match vs,us,qs,ws,its,h1,h2,r1,r2,r3 with | _,[_,_],_,[],[_],_,_,.cons u0 (.cons u1 .nil),.nil,.cons t0 .nil=>.cons u0 (.cons u1 .nil)) (fun s h v d e=>by subst e;simp at h)
theorem adT (T:Tx P K mg base a d):Bd K (d aat) ["self","tables","names"] 3 [] [.pos 0,.pos 1,.pos 2]:=
  ab2 T.F_World_with_tables (fun us ws=>match us,ws with | [u0,u1,u2],[]=>[u0,u1,u2] | _,_=>[])
    (fun _ _ _ _ _ _ us ws h1 h2=>match us,ws,h1,h2 with | [_,_,_],[],_,_=>rfl)
    (fun vs qs us ws h1 h2 r1 r2=>match vs,us,qs,ws,h1,h2,r1,r2 with | _,[_,_,_],_,[],_,_,.cons u0 (.cons u1 (.cons u2 .nil)),.nil=>.cons u0 (.cons u1 (.cons u2 .nil))) (fun s h v d e=>by subst e;simp at h)
theorem af1 (T:Tx P K mg base a d):Bd K (d abe) ["_law_rows"] 1 [] [.pos 0]:=
  ab2 T.F__law_closed (fun us ws=>match us,ws with | [u0],[]=>[u0] | _,_=>[])
    (fun _ _ _ _ _ _ us ws h1 h2=>match us,ws,h1,h2 with | [_],[],_,_=>rfl)
    (fun vs qs us ws h1 h2 r1 r2=>match vs,us,qs,ws,h1,h2,r1,r2 with | _,[_],_,[],_,_,.cons u0 .nil,.nil=>.cons u0 .nil) (fun s h v d e=>by subst e;simp at h)
theorem aar (T:Tx P K mg base a d):Bd K (d aas) ["_law_src","_law_many"] 2 [] [.pos 0,.pos 1]:=
  ab2 T.F__law_draw (fun us ws=>match us,ws with | [u0,u1],[]=>[u0,u1] | _,_=>[])
    (fun _ _ _ _ _ _ us ws h1 h2=>match us,ws,h1,h2 with | [_,_],[],_,_=>rfl)
    (fun vs qs us ws h1 h2 r1 r2=>match vs,us,qs,ws,h1,h2,r1,r2 with | _,[_,_],_,[],_,_,.cons u0 (.cons u1 .nil),.nil=>.cons u0 (.cons u1 .nil)) (fun s h v d e=>by subst e;simp at h)
theorem agw (T:Tx P K mg base a d):Bd K (d abt) ["_law_pairs"] 1 [] [.pos 0]:=
  ab2 T.F__law_least (fun us ws=>match us,ws with | [u0],[]=>[u0] | _,_=>[])
    (fun _ _ _ _ _ _ us ws h1 h2=>match us,ws,h1,h2 with | [_],[],_,_=>rfl)
    (fun vs qs us ws h1 h2 r1 r2=>match vs,us,qs,ws,h1,h2,r1,r2 with | _,[_],_,[],_,_,.cons u0 .nil,.nil=>.cons u0 .nil) (fun s h v d e=>by subst e;simp at h)
theorem af0 (T:Tx P K mg base a d):Bd K (d abd) ["_law_src"] 1 [] [.pos 0]:=
  ab2 T.F__law_length (fun us ws=>match us,ws with | [u0],[]=>[u0] | _,_=>[])
    (fun _ _ _ _ _ _ us ws h1 h2=>match us,ws,h1,h2 with | [_],[],_,_=>rfl)
    (fun vs qs us ws h1 h2 r1 r2=>match vs,us,qs,ws,h1,h2,r1,r2 with | _,[_],_,[],_,_,.cons u0 .nil,.nil=>.cons u0 .nil) (fun s h v d e=>by subst e;simp at h)
theorem ahj (T:Tx P K mg base a d):Bd K (d abW) ["_law_one","_law_other"] 2 [] [.pos 0,.pos 1]:=
  ab2 T.F__law_less (fun us ws=>match us,ws with | [u0,u1],[]=>[u0,u1] | _,_=>[])
    (fun _ _ _ _ _ _ us ws h1 h2=>match us,ws,h1,h2 with | [_,_],[],_,_=>rfl)
    (fun vs qs us ws h1 h2 r1 r2=>match vs,us,qs,ws,h1,h2,r1,r2 with | _,[_,_],_,[],_,_,.cons u0 (.cons u1 .nil),.nil=>.cons u0 (.cons u1 .nil)) (fun s h v d e=>by subst e;simp at h)
theorem ae6 (T:Tx P K mg base a d):Bd K (d abG) ["_law_top","_law_bottom"] 2 [] [.pos 0,.pos 1]:=
  ab2 T.F__law_low (fun us ws=>match us,ws with | [u0,u1],[]=>[u0,u1] | _,_=>[])
    (fun _ _ _ _ _ _ us ws h1 h2=>match us,ws,h1,h2 with | [_,_],[],_,_=>rfl)
    (fun vs qs us ws h1 h2 r1 r2=>match vs,us,qs,ws,h1,h2,r1,r2 with | _,[_,_],_,[],_,_,.cons u0 (.cons u1 .nil),.nil=>.cons u0 (.cons u1 .nil)) (fun s h v d e=>by subst e;simp at h)
theorem ahi (T:Tx P K mg base a d):Bd K (d abV) ["_law_plan"] 1 [] [.pos 0]:=
  ab2 T.F__law_made (fun us ws=>match us,ws with | [u0],[]=>[u0] | _,_=>[])
    (fun _ _ _ _ _ _ us ws h1 h2=>match us,ws,h1,h2 with | [_],[],_,_=>rfl)
    (fun vs qs us ws h1 h2 r1 r2=>match vs,us,qs,ws,h1,h2,r1,r2 with | _,[_],_,[],_,_,.cons u0 .nil,.nil=>.cons u0 .nil) (fun s h v d e=>by subst e;simp at h)
theorem adf (T:Tx P K mg base a d):Bd K (d aaI) ["_law_src","_law_things"] 2 [] [.pos 0,.pos 1]:=
  ab2 T.F__law_mixed (fun us ws=>match us,ws with | [u0,u1],[]=>[u0,u1] | _,_=>[])
    (fun _ _ _ _ _ _ us ws h1 h2=>match us,ws,h1,h2 with | [_,_],[],_,_=>rfl)
    (fun vs qs us ws h1 h2 r1 r2=>match vs,us,qs,ws,h1,h2,r1,r2 with | _,[_,_],_,[],_,_,.cons u0 (.cons u1 .nil),.nil=>.cons u0 (.cons u1 .nil)) (fun s h v d e=>by subst e;simp at h)
theorem agv (T:Tx P K mg base a d):Bd K (d abr) ["_law_src","_law_many"] 2 [] [.pos 0,.pos 1]:=
  ab2 T.F__law_names (fun us ws=>match us,ws with | [u0,u1],[]=>[u0,u1] | _,_=>[])
    (fun _ _ _ _ _ _ us ws h1 h2=>match us,ws,h1,h2 with | [_,_],[],_,_=>rfl)
    (fun vs qs us ws h1 h2 r1 r2=>match vs,us,qs,ws,h1,h2,r1,r2 with | _,[_,_],_,[],_,_,.cons u0 (.cons u1 .nil),.nil=>.cons u0 (.cons u1 .nil)) (fun s h v d e=>by subst e;simp at h)
theorem ael (T:Tx P K mg base a d):Bd K (d ab4) ["_law_src","_law_some"] 2 [] [.pos 0,.pos 1]:=
  ab2 T.F__law_of (fun us ws=>match us,ws with | [u0,u1],[]=>[u0,u1] | _,_=>[])
    (fun _ _ _ _ _ _ us ws h1 h2=>match us,ws,h1,h2 with | [_,_],[],_,_=>rfl)
    (fun vs qs us ws h1 h2 r1 r2=>match vs,us,qs,ws,h1,h2,r1,r2 with | _,[_,_],_,[],_,_,.cons u0 (.cons u1 .nil),.nil=>.cons u0 (.cons u1 .nil)) (fun s h v d e=>by subst e;simp at h)
theorem ahh (T:Tx P K mg base a d):Bd K (d abU) ["_law_world","_law_some"] 2 [] [.pos 0,.pos 1]:=
  ab2 T.F__law_part (fun us ws=>match us,ws with | [u0,u1],[]=>[u0,u1] | _,_=>[])
    (fun _ _ _ _ _ _ us ws h1 h2=>match us,ws,h1,h2 with | [_,_],[],_,_=>rfl)
    (fun vs qs us ws h1 h2 r1 r2=>match vs,us,qs,ws,h1,h2,r1,r2 with | _,[_,_],_,[],_,_,.cons u0 (.cons u1 .nil),.nil=>.cons u0 (.cons u1 .nil)) (fun s h v d e=>by subst e;simp at h)
theorem ahg (T:Tx P K mg base a d):Bd K (d abT) ["_law_one","_law_other"] 2 [] [.pos 0,.pos 1]:=
  ab2 T.F__law_plus (fun us ws=>match us,ws with | [u0,u1],[]=>[u0,u1] | _,_=>[])
    (fun _ _ _ _ _ _ us ws h1 h2=>match us,ws,h1,h2 with | [_,_],[],_,_=>rfl)
    (fun vs qs us ws h1 h2 r1 r2=>match vs,us,qs,ws,h1,h2,r1,r2 with | _,[_,_],_,[],_,_,.cons u0 (.cons u1 .nil),.nil=>.cons u0 (.cons u1 .nil)) (fun s h v d e=>by subst e;simp at h)
theorem ads (T:Tx P K mg base a d):Bd K (d abS) ["_law_found","_law_due"] 2 [] [.pos 0,.pos 1]:=
  ab2 T.F__law_same (fun us ws=>match us,ws with | [u0,u1],[]=>[u0,u1] | _,_=>[])
    (fun _ _ _ _ _ _ us ws h1 h2=>match us,ws,h1,h2 with | [_,_],[],_,_=>rfl)
    (fun vs qs us ws h1 h2 r1 r2=>match vs,us,qs,ws,h1,h2,r1,r2 with | _,[_,_],_,[],_,_,.cons u0 (.cons u1 .nil),.nil=>.cons u0 (.cons u1 .nil)) (fun s h v d e=>by subst e;simp at h)
theorem ad6 (T:Tx P K mg base a d):Bd K (d aav) ["_law_src","_law_names_here","_law_size","_law_layers"] 4 [] [.pos 0,.pos 1,.pos 2,.pos 3]:=
  ab2 T.F__law_spread_plan (fun us ws=>match us,ws with | [u0,u1,u2,u3],[]=>[u0,u1,u2,u3] | _,_=>[])
    (fun _ _ _ _ _ _ us ws h1 h2=>match us,ws,h1,h2 with | [_,_,_,_],[],_,_=>rfl)
    (fun vs qs us ws h1 h2 r1 r2=>match vs,us,qs,ws,h1,h2,r1,r2 with | _,[_,_,_,_],_,[],_,_,.cons u0 (.cons u1 (.cons u2 (.cons u3 .nil))),.nil=>.cons u0 (.cons u1 (.cons u2 (.cons u3 .nil)))) (fun s h v d e=>by subst e;simp at h)
theorem agu (T:Tx P K mg base a d):Bd K (d abq) ["_law_src","_law_size"] 2 [] [.pos 0,.pos 1]:=
  ab2 T.F__law_table (fun us ws=>match us,ws with | [u0,u1],[]=>[u0,u1] | _,_=>[])
    (fun _ _ _ _ _ _ us ws h1 h2=>match us,ws,h1,h2 with | [_,_],[],_,_=>rfl)
    (fun vs qs us ws h1 h2 r1 r2=>match vs,us,qs,ws,h1,h2,r1,r2 with | _,[_,_],_,[],_,_,.cons u0 (.cons u1 .nil),.nil=>.cons u0 (.cons u1 .nil)) (fun s h v d e=>by subst e;simp at h)
theorem aeN (T:Tx P K mg base a d):Bd K (d abR) ["_law_world"] 1 [] [.pos 0]:=
  ab2 T.F__law_told (fun us ws=>match us,ws with | [u0],[]=>[u0] | _,_=>[])
    (fun _ _ _ _ _ _ us ws h1 h2=>match us,ws,h1,h2 with | [_],[],_,_=>rfl)
    (fun vs qs us ws h1 h2 r1 r2=>match vs,us,qs,ws,h1,h2,r1,r2 with | _,[_],_,[],_,_,.cons u0 .nil,.nil=>.cons u0 .nil) (fun s h v d e=>by subst e;simp at h)
theorem alk (T:Tx P K mg base a d):Bd K (d adM) ["one","other"] 2 [] [.pos 0,.pos 1]:=
  ab2 T.F_below (fun us ws=>match us,ws with | [u0,u1],[]=>[u0,u1] | _,_=>[])
    (fun _ _ _ _ _ _ us ws h1 h2=>match us,ws,h1,h2 with | [_,_],[],_,_=>rfl)
    (fun vs qs us ws h1 h2 r1 r2=>match vs,us,qs,ws,h1,h2,r1,r2 with | _,[_,_],_,[],_,_,.cons u0 (.cons u1 .nil),.nil=>.cons u0 (.cons u1 .nil)) (fun s h v d e=>by subst e;simp at h)
theorem aeM (T:Tx P K mg base a d):Bd K (d aaH) ["names","size"] 2 [] [.pos 0,.pos 1]:=
  ab2 T.F_checked_places (fun us ws=>match us,ws with | [u0,u1],[]=>[u0,u1] | _,_=>[])
    (fun _ _ _ _ _ _ us ws h1 h2=>match us,ws,h1,h2 with | [_,_],[],_,_=>rfl)
    (fun vs qs us ws h1 h2 r1 r2=>match vs,us,qs,ws,h1,h2,r1,r2 with | _,[_,_],_,[],_,_,.cons u0 (.cons u1 .nil),.nil=>.cons u0 (.cons u1 .nil)) (fun s h v d e=>by subst e;simp at h)
theorem adk (T:Tx P K mg base a d):Bd K (d aaO) ["layer","rows","size"] 3 [] [.pos 0,.pos 1,.pos 2]:=
  ab2 T.F_checked_table (fun us ws=>match us,ws with | [u0,u1,u2],[]=>[u0,u1,u2] | _,_=>[])
    (fun _ _ _ _ _ _ us ws h1 h2=>match us,ws,h1,h2 with | [_,_,_],[],_,_=>rfl)
    (fun vs qs us ws h1 h2 r1 r2=>match vs,us,qs,ws,h1,h2,r1,r2 with | _,[_,_,_],_,[],_,_,.cons u0 (.cons u1 (.cons u2 .nil)),.nil=>.cons u0 (.cons u1 (.cons u2 .nil))) (fun s h v d e=>by subst e;simp at h)
theorem afZ (T:Tx P K mg base a d):Bd K (d abc) ["rows"] 1 [] [.pos 0]:=
  ab2 T.F_first_fault (fun us ws=>match us,ws with | [u0],[]=>[u0] | _,_=>[])
    (fun _ _ _ _ _ _ us ws h1 h2=>match us,ws,h1,h2 with | [_],[],_,_=>rfl)
    (fun vs qs us ws h1 h2 r1 r2=>match vs,us,qs,ws,h1,h2,r1,r2 with | _,[_],_,[],_,_,.cons u0 .nil,.nil=>.cons u0 .nil) (fun s h v d e=>by subst e;simp at h)
theorem ah3 (T:Tx P K mg base a d):Bd K (d ach) ["value","layers"] 2 [] [.pos 0,.pos 1]:=
  amA T.F_is_layer (by simp) (fun us ws its=>match us,ws,its with | [u0,u1],[],[t0]=>[u0,u1] | _,_,_=>[])
    (fun _ _ _ _ _ _ _ us ws its h1 h2 h3=>match us,ws,its,h1,h2,h3 with | [_,_],[],[_],_,_,_=>⟨_,rfl,rfl⟩)
    (fun vs qs us ws its h1 h2 r1 r2 r3=>match vs,us,qs,ws,its,h1,h2,r1,r2,r3 with | _,[_,_],_,[],[_],_,_,.cons u0 (.cons u1 .nil),.nil,.cons t0 .nil=>.cons u0 (.cons u1 .nil)) (fun s h v d e=>by subst e;simp at h)
theorem aiE (T:Tx P K mg base a d):Bd K (d acP) ["value"] 1 [] [.pos 0]:=
  ab2 T.F_is_name (fun us ws=>match us,ws with | [u0],[]=>[u0] | _,_=>[])
    (fun _ _ _ _ _ _ us ws h1 h2=>match us,ws,h1,h2 with | [_],[],_,_=>rfl)
    (fun vs qs us ws h1 h2 r1 r2=>match vs,us,qs,ws,h1,h2,r1,r2 with | _,[_],_,[],_,_,.cons u0 .nil,.nil=>.cons u0 .nil) (fun s h v d e=>by subst e;simp at h)
theorem aeL (T:Tx P K mg base a d):Bd K (d abj) ["value","least","most"] 3 [] [.pos 0,.pos 1,.pos 2]:=
  ab2 T.F_is_number (fun us ws=>match us,ws with | [u0,u1,u2],[]=>[u0,u1,u2] | _,_=>[])
    (fun _ _ _ _ _ _ us ws h1 h2=>match us,ws,h1,h2 with | [_,_,_],[],_,_=>rfl)
    (fun vs qs us ws h1 h2 r1 r2=>match vs,us,qs,ws,h1,h2,r1,r2 with | _,[_,_,_],_,[],_,_,.cons u0 (.cons u1 (.cons u2 .nil)),.nil=>.cons u0 (.cons u1 (.cons u2 .nil))) (fun s h v d e=>by subst e;simp at h)
theorem ae5 (T:Tx P K mg base a d):Bd K (d abF) ["value"] 1 [] [.pos 0]:=
  ab2 T.F_is_ratio (fun us ws=>match us,ws with | [u0],[]=>[u0] | _,_=>[])
    (fun _ _ _ _ _ _ us ws h1 h2=>match us,ws,h1,h2 with | [_],[],_,_=>rfl)
    (fun vs qs us ws h1 h2 r1 r2=>match vs,us,qs,ws,h1,h2,r1,r2 with | _,[_],_,[],_,_,.cons u0 .nil,.nil=>.cons u0 .nil) (fun s h v d e=>by subst e;simp at h)
theorem ahf (T:Tx P K mg base a d):Bd K (d abQ) ["value"] 1 [] [.pos 0]:=
  ab2 T.F_is_square (fun us ws=>match us,ws with | [u0],[]=>[u0] | _,_=>[])
    (fun _ _ _ _ _ _ us ws h1 h2=>match us,ws,h1,h2 with | [_],[],_,_=>rfl)
    (fun vs qs us ws h1 h2 r1 r2=>match vs,us,qs,ws,h1,h2,r1,r2 with | _,[_],_,[],_,_,.cons u0 .nil,.nil=>.cons u0 .nil) (fun s h v d e=>by subst e;simp at h)
theorem ahe (T:Tx P K mg base a d):Bd K (d abP) ["value"] 1 [] [.pos 0]:=
  ab2 T.F_is_valued (fun us ws=>match us,ws with | [u0],[]=>[u0] | _,_=>[])
    (fun _ _ _ _ _ _ us ws h1 h2=>match us,ws,h1,h2 with | [_],[],_,_=>rfl)
    (fun vs qs us ws h1 h2 r1 r2=>match vs,us,qs,ws,h1,h2,r1,r2 with | _,[_],_,[],_,_,.cons u0 .nil,.nil=>.cons u0 .nil) (fun s h v d e=>by subst e;simp at h)
theorem acR (T:Tx P K mg base a d):Bd K (d aaQ) ["value"] 1 [] [.pos 0]:=
  ab2 T.F_is_whole (fun us ws=>match us,ws with | [u0],[]=>[u0] | _,_=>[])
    (fun _ _ _ _ _ _ us ws h1 h2=>match us,ws,h1,h2 with | [_],[],_,_=>rfl)
    (fun vs qs us ws h1 h2 r1 r2=>match vs,us,qs,ws,h1,h2,r1,r2 with | _,[_],_,[],_,_,.cons u0 .nil,.nil=>.cons u0 .nil) (fun s h v d e=>by subst e;simp at h)
theorem agI (T:Tx P K mg base a d):Bd K (d ac5) ["top","bottom"] 2 [] [.pos 0,.pos 1]:=
  ab2 T.F_lowest (fun us ws=>match us,ws with | [u0,u1],[]=>[u0,u1] | _,_=>[])
    (fun _ _ _ _ _ _ us ws h1 h2=>match us,ws,h1,h2 with | [_,_],[],_,_=>rfl)
    (fun vs qs us ws h1 h2 r1 r2=>match vs,us,qs,ws,h1,h2,r1,r2 with | _,[_,_],_,[],_,_,.cons u0 (.cons u1 .nil),.nil=>.cons u0 (.cons u1 .nil)) (fun s h v d e=>by subst e;simp at h)
theorem al8 (T:Tx P K mg base a d):Bd K (d ae3) ["one","other"] 2 [] [.pos 0,.pos 1]:=
  ab2 T.F_plus (fun us ws=>match us,ws with | [u0,u1],[]=>[u0,u1] | _,_=>[])
    (fun _ _ _ _ _ _ us ws h1 h2=>match us,ws,h1,h2 with | [_,_],[],_,_=>rfl)
    (fun vs qs us ws h1 h2 r1 r2=>match vs,us,qs,ws,h1,h2,r1,r2 with | _,[_,_],_,[],_,_,.cons u0 (.cons u1 .nil),.nil=>.cons u0 (.cons u1 .nil)) (fun s h v d e=>by subst e;simp at h)
theorem acj (T:Tx P K mg base a d):Bd K (d abE) ["value"] 1 [] [.pos 0]:=
  ab2 T.F_ratio_of (fun us ws=>match us,ws with | [u0],[]=>[u0] | _,_=>[])
    (fun _ _ _ _ _ _ us ws h1 h2=>match us,ws,h1,h2 with | [_],[],_,_=>rfl)
    (fun vs qs us ws h1 h2 r1 r2=>match vs,us,qs,ws,h1,h2,r1,r2 with | _,[_],_,[],_,_,.cons u0 .nil,.nil=>.cons u0 .nil) (fun s h v d e=>by subst e;simp at h)
theorem aeJ (T:Tx P K mg base a d):Binds K (d aaZ) ["self"] []:=ad1 T.F_World_size fun _ _ _ _ _ _ us hl=>match us,hl with | [_],_=>rfl
theorem adR (T:Tx P K mg base a d):Binds K (d aaA) ["self"] []:=ad1 T.F_World_layers fun _ _ _ _ _ _ us hl=>match us,hl with | [_],_=>rfl
theorem adS (T:Tx P K mg base a d):Binds K (d aap) ["self","name"] []:=ad1 T.F_World___contains__ fun _ _ _ _ _ _ us hl=>match us,hl with | [_,_],_=>rfl
abbrev aku:List Str:=["_law_src","_law_some"]
theorem ajs:FnScope aku ["_law_src","_law_some"] (defScope ac0):=⟨rfl,rfl,rfl,by decide +kernel,rfl,by decide +kernel,by decide +kernel⟩
theorem agB (T:Tx P K mg base a d):FnG P w K mg base 2 (a ab4) (d ab4) ["_law_src","_law_some"] spOf:=by
  have G__law_draw:FnG P w K mg base 1 (a aas) (d aas) ["_law_src","_law_many"] spDraw:=acM T
  refine aeb T.F__law_of ajs (fun args Q E h=>?_) (fun args Q E h=>?_) (fun cdv A outer s H E hr hg=>(aai (aao (aan ix_seq aag (aad (pv 1)) (aaf G__law_draw (hr.mono (by decide)) hg (tkOf rfl rfl rfl rfl) (aar T) (by rfl) T.m__law_draw T.F__law_draw.kp (aaa (aac (pv 0)) (aaa (aaj call_len aaR (by rfl) T.n_len PySem.boot_len (aaa (aad (pv 1)) aab)) aab))) (fun _ _=>rfl))))) (fun args Q E h=>?_)
  · obtain ⟨x,rfl,_⟩:=h;rfl
  · obtain ⟨x,rfl,hx,_⟩:=h
    intro i o z
    match i with
    | 0=>cases z
    | 1=>exact hx o (Option.some.inj z)
    | i + 2=>simp at z
  · obtain ⟨x,rfl,hx,h⟩:=h
    cases x with
    | src=>exact h.elim
    | mu _ _ _=>exact h.elim
    | gh _ _=>exact h.elim
    | own o=>
      cases o with
      | lst ds=>
        obtain ⟨h1,h2,h3⟩:=h
        refine abk rfl ?_
        refine ⟨rfl,rfl,_,rfl,by omega,adC h2,fun n h0 h4=>?_⟩
        obtain ⟨y,e1,e2⟩:=ah2 h0 h4
        exact acB rfl e1 (h3 y e2)
      | ins _ _ _=>exact h.elim
      | dk _=>exact h.elim
      | dt _=>exact h.elim
    | bor o=>
      cases o with
      | lst ds=>
        obtain ⟨h1,h2,h3⟩:=h
        refine abk rfl ?_
        refine ⟨rfl,rfl,_,rfl,by omega,adC h2,fun n h0 h4=>?_⟩
        obtain ⟨y,e1,e2⟩:=ah2 h0 h4
        exact acB rfl e1 (h3 y e2)
      | ins _ _ _=>exact h.elim
      | dk _=>exact h.elim
      | dt _=>exact h.elim
    | see o=>exact absurd rfl (hx o)
    | d y=>
      cases y with
      | str z=>
        obtain ⟨h1,h2,h3⟩:=h
        refine akK h2 ?_
        refine ⟨rfl,rfl,_,rfl,by omega,adC h2,fun n h0 h4=>?_⟩
        obtain ⟨y,e1,e2⟩:=ah2 (xs:=z.cps.toList) h0 (by simpa [Str.length] using h4)
        exact l_ixS h2 e1 (h3 y e2)
      | tup ds=>
        obtain ⟨h1,h2,h3⟩:=h
        refine akJ ?_
        refine ⟨rfl,rfl,_,rfl,by omega,adC h2,fun n h0 h4=>?_⟩
        obtain ⟨y,e1,e2⟩:=ah2 h0 h4
        exact abl e1 (h3 y e2)
      | lst ds=>
        obtain ⟨h1,h2,h3⟩:=h
        refine abk rfl ?_
        refine ⟨rfl,rfl,_,rfl,by omega,adC h2,fun n h0 h4=>?_⟩
        obtain ⟨y,e1,e2⟩:=ah2 h0 h4
        exact acB rfl e1 (h3 y e2)
      | non=>exact h.elim
      | bl _=>exact h.elim
      | int _=>exact h.elim
      | ins _ _=>exact h.elim
      | dk _=>exact h.elim
      | dt _=>exact h.elim
      | any=>exact h.elim
      | raw _=>exact h.elim
      | kt _=>exact h.elim
abbrev aim:List Str:=["_law_found","_law_due"]
theorem aht:FnScope aim ["_law_found","_law_due"] (defScope ab9):=⟨rfl,rfl,rfl,by decide +kernel,rfl,by decide +kernel,by decide +kernel⟩
theorem ahI (T:Tx P K mg base a d):FnG P w K mg base 1 (a abS) (d abS) ["_law_found","_law_due"] spSame:=by
  refine aeb T.F__law_same aht (fun args Q E h=>?_) (fun args Q E h=>?_) (fun cdv A outer s H E hr hg=>(aai (aao (aeI (aba hr.units) acH (aaj (agG hg (ame hr)) aiO (by rfl) T.n_repr (by decide +kernel) (aaa (aad (pv 0)) aab)) (aaj (agG hg (ame hr)) aiO (by rfl) T.n_repr (by decide +kernel) (aaa (aad (pv 1)) aab)) (nomark _))))) (fun args Q E h=>?_)
  · obtain ⟨_,_,_,_,rfl,_⟩:=h;rfl
  · obtain ⟨_,_,_,_,rfl,_⟩:=h
    intro i o z
    match i with
    | 0=>cases z
    | 1=>cases z
    | i + 2=>simp at z
  · obtain ⟨d1,d2,p,q,rfl,s1,s2,h⟩:=h
    show reprR [.d d1] (fun x=>reprR [.d d2] (fun y=>eqR false x y (retQ Q)))
    exact aka s1 (aka s2 (l_eqS h))
abbrev agX:List Str:=["_law_e"]
theorem agd:FnScope agX ["_law_e"] (defScope aby):=⟨rfl,rfl,rfl,by decide +kernel,rfl,by decide +kernel,by decide +kernel⟩
theorem agj (T:Tx P K mg base a d):FnP P w K mg base 1 (a ab0) (d ab0) ["_law_e"] (spFields K):=by
  refine aoF T.F__law_fields agd (fun p vs H Q E h=>?_) (fun cdv A outer s H vs Q E p h=>?_)
  · obtain ⟨_,_,_,_,_,rfl,_⟩:=h;rfl
  · obtain ⟨C,dx,fs,c,xs,rfl,px,no,hd,lc,fo,hq⟩:=h
    have hp:p∈[p]:=List.mem_singleton.mpr rfl
    refine ⟨_,(pss_cons (ps_if (pt_cmpR op_in_seq (abH hp (pv 0)) (pe_tup (pa_cons pe_str (pa_cons pe_str (pa_cons pe_str (pa_cons pe_str (pa_cons pe_str (pa_cons pe_str (pa_cons pe_str (pa_cons pe_str pa_nil))))))))) (by rfl)) (pss_one (ps_ret (pe_tup (pa_cons (abH hp (pv 0)) pa_nil)))) pss_nil)
      (pss_cons (ps_if (pt_cmpR op_in_seq (abH hp (pv 0)) (pe_tup (pa_cons pe_str (pa_cons pe_str (pa_cons pe_str pa_nil)))) (by rfl)) (pss_one (ps_ret (pe_tup (pa_cons (abH hp (pv 0)) pa_nil)))) pss_nil)
      (pss_cons (ps_if (pt_cmpR op_in_seq (abH hp (pv 0)) (pe_tup (pa_cons pe_str (pa_cons pe_str pa_nil))) (by rfl)) (pss_one (ps_ret (pe_tup (pa_cons (abH hp (pv 0)) pa_nil)))) pss_nil)
      (pss_cons (ps_if (pt_cmpR op_in_seq (abH hp (pv 0)) (pe_tup (pa_cons pe_str (pa_cons pe_str pa_nil))) (by rfl)) (pss_one (ps_ret (pe_tup (pa_cons (abH hp (pv 0)) pa_nil)))) pss_nil)
      (pss_cons (ps_if (pt_cmpR op_in_seq (abH hp (pv 0)) (pe_tup (pa_cons pe_str (pa_cons pe_str pa_nil))) (by rfl)) (pss_one (ps_ret (pe_tup (pa_cons (abH hp (pv 0)) pa_nil)))) pss_nil)
      (pss_cons (ps_if (pt_cmpR op_eq (abH hp (pv 0)) pe_str (nomark _)) (pss_one (ps_ret (pe_tup (pa_cons (abH hp (pv 0)) pa_nil)))) pss_nil)
      (pss_cons (ps_if (pt_cmpR op_eq (abH hp (pv 0)) pe_str (nomark _)) (pss_one (ps_ret (pe_tup (pa_cons (abH hp (pv 0)) (pa_cons (abH hp (pv 0)) (pa_cons (abH hp (pv 0)) pa_nil)))))) pss_nil)
      (pss_cons (ps_if (pt_cmpR op_eq (abH hp (pv 0)) pe_str (nomark _)) (pss_one (ps_ret (pe_tup (pa_cons (abH hp (pv 0)) pa_nil)))) pss_nil)
      (pss_cons (ps_if (pt_cmpR op_eq (abH hp (pv 0)) pe_str (nomark _)) (pss_one (ps_ret (pe_tup (pa_cons (abH hp (pv 0)) pa_nil)))) pss_nil)
      (pss_one (ps_ret (pe_ifExp (pt_cmpR op_eq (abH hp (pv 0)) pe_str (nomark _)) (pe_tup (pa_cons (abH hp (pv 0)) (pa_cons (abH hp (pv 0)) pa_nil))) (pe_tup pa_nil))))))))))))),?_⟩
    have nc:=no "code" (by decide)
    have fin:∀ {H2:Hp} (l:Addr),Ex H H2->H2 l=none->Q (.ref l) (upd H2 l (.tup xs)):=fun l e n=>hq _ l (e.trans (Ex.new n)) (e.free n) upd_same
    have one:∀ {H2:Hp} (f:Str),Ex H H2->f∈errFields->(fs.lookup f).map (fun v=>[v])=some xs->tTup (tCons (tXfP K p f (tVar 0)) tNil) [some (.ref p.1)] H2 Q:=fun {H2} f e hf z=>by
      cases q:fs.lookup f with
      | none=>rw [q] at z;cases z
      | some v=>
        rw [q] at z;cases z
        exact amI px (no f hf) (e _ _ hd) rfl q ⟨by show 1<=sizeLine;decide,fun l n=>fin l e n⟩
    unfold DL.fieldsOf at fo
    dsimp only at fo
    have e0:Ex H H:=Ex.refl H
    refine t_in ["InvalidRatio","InvalidNumber","InvalidName","InvalidLayer","InvalidPlace","InvalidPoint","InvalidForm","InvalidLimit"] px nc (e0 _ _ hd) rfl lc (by decide) (fun l0 n0=>ite2 (fun z=>?_) (fun z=>?_))
    · rw [if_pos (of_decide_eq_true z)] at fo
      exact one "given" (e0.trans (Ex.new n0)) (by decide) fo
    rw [if_neg (fun y=>z (decide_eq_true y))] at fo
    have e1:=e0.trans (Ex.new (o:=.tup ((["InvalidRatio","InvalidNumber","InvalidName","InvalidLayer","InvalidPlace","InvalidPoint","InvalidForm","InvalidLimit"]:List Str).map V.str)) n0)
    refine t_in ["InvalidRow","InvalidFact","InvalidCommand"] px nc (e1 _ _ hd) rfl lc (by decide) (fun l1 n1=>ite2 (fun z=>?_) (fun z=>?_))
    · rw [if_pos (of_decide_eq_true z)] at fo
      exact one "at" (e1.trans (Ex.new n1)) (by decide) fo
    rw [if_neg (fun y=>z (decide_eq_true y))] at fo
    have e2:=e1.trans (Ex.new (o:=.tup ((["InvalidRow","InvalidFact","InvalidCommand"]:List Str).map V.str)) n1)
    refine t_in ["InvalidStep","UnlikeEnds"] px nc (e2 _ _ hd) rfl lc (by decide) (fun l2 n2=>ite2 (fun z=>?_) (fun z=>?_))
    · rw [if_pos (of_decide_eq_true z)] at fo
      exact one "path" (e2.trans (Ex.new n2)) (by decide) fo
    rw [if_neg (fun y=>z (decide_eq_true y))] at fo
    have e3:=e2.trans (Ex.new (o:=.tup ((["InvalidStep","UnlikeEnds"]:List Str).map V.str)) n2)
    refine t_in ["DuplicateName","UnknownName"] px nc (e3 _ _ hd) rfl lc (by decide) (fun l3 n3=>ite2 (fun z=>?_) (fun z=>?_))
    · rw [if_pos (of_decide_eq_true z)] at fo
      exact one "name" (e3.trans (Ex.new n3)) (by decide) fo
    rw [if_neg (fun y=>z (decide_eq_true y))] at fo
    have e4:=e3.trans (Ex.new (o:=.tup ((["DuplicateName","UnknownName"]:List Str).map V.str)) n3)
    refine t_in ["InvalidText","UnknownScript"] px nc (e4 _ _ hd) rfl lc (by decide) (fun l4 n4=>ite2 (fun z=>?_) (fun z=>?_))
    · rw [if_pos (of_decide_eq_true z)] at fo
      exact one "word" (e4.trans (Ex.new n4)) (by decide) fo
    rw [if_neg (fun y=>z (decide_eq_true y))] at fo
    have e5:=e4.trans (Ex.new (o:=.tup ((["InvalidText","UnknownScript"]:List Str).map V.str)) n4)
    refine t_eq "InvalidTable" px nc (e5 _ _ hd) rfl lc (ite2 (fun z=>?_) (fun z=>?_))
    · rw [if_pos (of_decide_eq_true z)] at fo
      exact one "layer" e5 (by decide) fo
    rw [if_neg (fun y=>z (decide_eq_true y))] at fo
    refine t_eq "InvalidWay" px nc (e5 _ _ hd) rfl lc (ite2 (fun z=>?_) (fun z=>?_))
    · rw [if_pos (of_decide_eq_true z)] at fo
      split at fo
      · rename_i v1 v2 v3 q1 q2 q3
        cases fo
        exact ⟨.ref p.1,rfl,rfl,C,dx,fs,v1,px,no _ (by decide),e5 _ _ hd,q1,.ref p.1,rfl,rfl,C,dx,fs,v2,px,no _ (by decide),e5 _ _ hd,q2,.ref p.1,rfl,rfl,C,dx,fs,v3,px,no _ (by decide),e5 _ _ hd,q3,by show 3<=sizeLine;decide,fun l n=>fin l e5 n⟩
      · cases fo
    rw [if_neg (fun y=>z (decide_eq_true y))] at fo
    refine t_eq "Full" px nc (e5 _ _ hd) rfl lc (ite2 (fun z=>?_) (fun z=>?_))
    · rw [if_pos (of_decide_eq_true z)] at fo
      exact one "limit" e5 (by decide) fo
    rw [if_neg (fun y=>z (decide_eq_true y))] at fo
    refine t_eq "InvalidPage" px nc (e5 _ _ hd) rfl lc (ite2 (fun z=>?_) (fun z=>?_))
    · rw [if_pos (of_decide_eq_true z)] at fo
      exact one "line" e5 (by decide) fo
    rw [if_neg (fun y=>z (decide_eq_true y))] at fo
    refine t_eq "TooMany" px nc (e5 _ _ hd) rfl lc (ite2 (fun z=>?_) (fun z=>?_))
    · rw [if_pos (of_decide_eq_true z)] at fo
      split at fo
      · rename_i v1 v2 q1 q2
        cases fo
        exact ⟨.ref p.1,rfl,rfl,C,dx,fs,v1,px,no _ (by decide),e5 _ _ hd,q1,.ref p.1,rfl,rfl,C,dx,fs,v2,px,no _ (by decide),e5 _ _ hd,q2,by show 2<=sizeLine;decide,fun l n=>fin l e5 n⟩
      · cases fo
    · rw [if_neg (fun y=>z (decide_eq_true y))] at fo
      cases fo
      exact ⟨by show 0<=sizeLine;decide,fun l n=>fin l e5 n⟩
theorem agt (T:Tx P K mg base a d):Binds K (d ab0) ["_law_e"] []:=ad1 T.F__law_fields fun _ _ _ _ _ _ us hl=>match us,hl with | [_],_=>rfl
abbrev acg:List Str:=["_law_f","_law_e"]
theorem afF:FnScope acg ["_law_f"] (defScope s__law_ask):=⟨rfl,rfl,rfl,by decide +kernel,rfl,by decide +kernel,by decide +kernel⟩
theorem aiD (T:Tx P K mg base a d):Binds K (d abn) ["_law_f"] []:=ad1 T.F__law_ask fun _ _ _ _ _ _ us hl=>match us,hl with | [_],_=>rfl
theorem aoS (T:Tx P K mg base a d) {X:Cx} {q:Str} (h1:X.prog=P) (h2:X.w=w) (h3:X.K=K) (h4:X.mg=mg) (h5:X.base=base) (hr:Room 3 X.A):AskTo X acg "_law_ask" (defScope s__law_ask) (a abn) (defBody s__law_ask) "_law_f" q (TTask K (csA K)):=by
  subst h1 h2 h3 h4 h5
  intro cdg f c' s H Q tl act hc tt
  have hgl:∀ x,(defScope s__law_ask).names.lookup x=some .globalImplicit->Gl (gotC X acg "_law_ask" (defScope s__law_ask) (a abn) cdg s H E0) x:=fun x h=>h
  refine ⟨_,pss_one (aju (X:=gotC X acg "_law_ask" (defScope s__law_ask) (a abn) cdg s H E0) (i:=1) (Wout:=fun _ _ _ _=>False) rfl rfl afF.nd rfl rfl
      (c1:=.ref (He.ga X.K "MilesError")) (c2:=.ref (He.ga X.K "Missing")) (c3:=.ref (He.ga X.K "NothingLeft"))
      ⟨hgl _ (by decide +kernel),by decide,.inl T.m_MilesError⟩ ⟨hgl _ (by decide +kernel),by decide,.inl T.m_Missing⟩ ⟨hgl _ (by decide +kernel),by decide,.inl T.m_NothingLeft⟩ ac4
      (tb:=fun W D σ H=>∃ Ech:XK,(∀ cls d (σ':L2.St) H',σ'.length=2->Ech cls d H'->W cls d σ' H')/\σ[0]?=some (some (.ref f))/\H c'=some (LamX.CodeO c' q)/\tl Ech H fun v H'=>[V.str "",v].length<=sizeLine/\∀ l,H' l=none->D.rt (.ref l) (upd H' l (.tup [.str "",v])))
      (ts:=fun e cls d D σ H=>σ[1]?=some (some (.ref e))/\∃ C dx fs c xs,cls=.ref C/\d=some dx/\ErrC X.K (csA X.K) C/\H dx=some (.xd fs)/\fs.lookup ("code":Str)=some (V.str c)/\DL.fieldsOf c fs=some xs/\∀ H2 l,Ex H H2->H l=none->H2 l=some (.tup (.str c::xs))->D.rt (.ref l) H2)
      (fun W pn xe tk _=>?_) (fun e oe cls dd pn zn hv=>?_)),?_⟩
  · refine ⟨fun pins s' σ H' D I h'=>?_⟩
    obtain ⟨Ech,hW,g1,g2,g3⟩:=h'
    exact (pss_one (ps_ret (pe_tup (pa_cons pe_str (pa_cons (act W pn xe Ech _ _ tk hW) pa_nil))))).run pins s' σ H' D I ⟨g1,g2,g3⟩
  · obtain ⟨vs,hvs⟩:=hv
    have hot:L2H.Hot1 ((gotC X acg "_law_ask" (defScope s__law_ask) (a abn) cdg s H E0).suite e ((e,oe)::pn)).A (e,oe):=⟨rfl,vs,hvs,zn.2.2 vs hvs⟩
    have hpn:(e,oe)∈((gotC X acg "_law_ask" (defScope s__law_ask) (a abn) cdg s H E0).suite e ((e,oe)::pn)).pn:=List.mem_cons_self ..
    have rh:L2H.RoomH 1 ((gotC X acg "_law_ask" (defScope s__law_ask) (a abn) cdg s H E0).suite e ((e,oe)::pn)).A:=by
      have r:=L2H.roomH_of (k:=1) (A:=X.A.deeper (envOfC "_law_ask" (defScope s__law_ask) s.heap.objs.size (a abn) cdg)) ((hr.mono (by decide:2<=3)).deeper _)
      exact ⟨r.dp,r.un⟩
    refine ⟨fun pins s' σ H' D I h'=>?_⟩
    obtain ⟨g1,C,dx,fs,c,xs,rfl,rfl,ec,g2,g3,g4,g5⟩:=h'
    refine (pss_one (ps_ret (pe_op op_catA (pe_tup (pa_cons (abH hpn (pv 1)) pa_nil)) (alG (p:=(e,oe)) (agj T) rh hot hpn (by rfl) T.m__law_fields T.F__law_fields.kp (agt T) (pa_cons (pv 1) pa_nil))))).run pins s' σ H' D I ?_
    have px:PinX X.K (e,oe) C dx:=⟨zn,⟨vs,hvs⟩,ec.x⟩
    refine ⟨.ref e,g1,rfl,C,dx,fs,.str c,px,ec.no _ (by decide),g2,g3,?_⟩
    refine ⟨by show 1<=sizeLine;decide,fun l1 n1=>?_⟩
    refine ⟨.ref e,g1,C,dx,fs,c,xs,rfl,px,ec.no,by rw [upd_ne (ne_of_none g2 n1)];exact g2,g3,g4,fun H2 l e2 n2 t2=>?_⟩
    have t1:H2 l1=some (.tup [.str c]):=e2 _ _ upd_same
    have e12:Ex H' H2:=(Ex.new n1).trans e2
    refine ⟨l1,l,[.str c],xs,rfl,rfl,SqT.of t1,SqT.of t2,?_,(fun z=>by cases z),fun _ z=>?_,fun _ _ p np=>?_⟩
    · have:=ajE g4
      rw [sizeLine_eq];simp;omega
    · subst z
      exact g5 H2 l1 e12 n1 t1
    · exact g5 _ p (e12.trans (Ex.new np)) (e12.free np) upd_same
  · refine ⟨_,fun cls d σ' H' hl h=>?_,rfl,hc,tt⟩
    obtain ⟨C,dx,fs,c,xs,rfl,rfl,ec,g2,g3,g4,g5⟩:=h
    refine ⟨true,ec.is,fun _ e ne=>?_,fun z=>by cases z⟩
    exact ⟨List.getElem?_set_self (by omega),C,dx,fs,c,xs,rfl,rfl,ec,g2,g3,g4,g5⟩
theorem alb (T:Tx P K mg base a d) {cc:Addr} {cdv:Value} {A:Around} {outer:List Env} {s:Shared} {H:Hp} {E:XK} {W:WX} {xs:List Str} {params:Arguments} {body:Expr} {scope:Scope} {te:TD} {k:Nat} {p lpos pos:Pos} (hmem:(cc,He.tabOf K cc,(("law":Str)++".<locals>."++"<lambda>"))∈lamFns K) (hcode:cdv=.ref cc)
    (hr:Room (k + 3) (A.deeper (envOfC "law" (defScope adG) s.heap.objs.size (a ag3) cdv))) (hgd:A.guards=some []) (hp:LamPar params xs) (L:LamN ["_law_script","_law_src","_law_turn","_law_size","_law_plan","_law_world","_law_some","_law_twice","_law_names_here","_law_due","_law_odd","_law_k","_law_name","_law_spot","_law_table_here","_law_pair","_law_x","_law_y"] (defScope adG) scope xs)
    (hbody:∀ (A':Around) (outer':List Env) (s':Shared) (H':Hp) (E':XK) (f c':Addr),Room k (A'.deeper (LamX.lamEnv (cxOf (L2N.CX P w) P w K mg base ["_law_script","_law_src","_law_turn","_law_size","_law_plan","_law_world","_law_some","_law_twice","_law_names_here","_law_due","_law_odd","_law_k","_law_name","_law_spot","_law_table_here","_law_pair","_law_x","_law_y"] "law" (defScope adG) (a ag3) cdv A outer s H E) scope s'.heap.objs.size f c'))->A'.guards=some []->DE (lamC (cxOf (L2N.CX P w) P w K mg base ["_law_script","_law_src","_law_turn","_law_size","_law_plan","_law_world","_law_some","_law_twice","_law_names_here","_law_due","_law_odd","_law_k","_law_name","_law_spot","_law_table_here","_law_pair","_law_x","_law_y"] "law" (defScope adG) (a ag3) cdv A outer s H E) A' outer' s' H' E' scope f c') (fun cls d _ H'=>E' cls d H') body te) :
    DE (cxOf (L2N.CX P w) P w K mg base ["_law_script","_law_src","_law_turn","_law_size","_law_plan","_law_world","_law_some","_law_twice","_law_names_here","_law_due","_law_odd","_law_k","_law_name","_law_spot","_law_table_here","_law_pair","_law_x","_law_y"] "law" (defScope adG) (a ag3) cdv A outer s H E) W (.Call (.Name "_law_ask" p) [.Lambda params body scope lpos] [] pos) (dAsk K (csA K) te):=
  aoP (X:=cxOf (L2N.CX P w) P w K mg base ["_law_script","_law_src","_law_turn","_law_size","_law_plan","_law_world","_law_some","_law_twice","_law_names_here","_law_due","_law_odd","_law_k","_law_name","_law_spot","_law_table_here","_law_pair","_law_x","_law_y"] "law" (defScope adG) (a ag3) cdv A outer s H E) (k:=k) (Ng:=acg) (by rfl) T.m__law_ask T.F__law_ask afF (aiD T) rfl (.inl rfl) (aoS T rfl rfl rfl rfl rfl (hr.mono (by omega))) hmem (T.tb _ hmem) hcode hp L (hr.mono (by omega)) hgd hbody
end
section
variable {P:Program} {w:World} {K:PySem.W.Frag} {mg:Str->Option Value} {base:Heap} {a:Nat->Addr} {d:Nat->FuncData}
theorem aln (x:D):wholeD x=(isB "int" x && !isB "bool" x):=by cases x<;>rfl
abbrev ajy:List Str:=["value"]
theorem aib:FnScope ajy ["value"] (defScope acw):=⟨rfl,rfl,rfl,by decide +kernel,rfl,by decide +kernel,by decide +kernel⟩
theorem ado (T:Tx P K mg base a d):FnG P w K mg base 1 (a aaQ) (d aaQ) ["value"] (sp1 fun x Q _=>kindD x=true/\Q (.d (.bl (wholeD x)))):=by
  refine ac6 T.F_is_whole aib (fun cdv A outer s H E hr hg=>(aai (aao (agF (aaj call_isi aeR (by rfl) T.n_isinstance (by decide +kernel) (aaa (aad (pv 0)) (aaa (agq (T:="int") (by rfl) T.n_int (by decide +kernel)) aab))) (afX (aoL (aaj call_isi aeR (by rfl) T.n_isinstance (by decide +kernel) (aaa (aad (pv 0)) (aaa (agq (T:="bool") (by rfl) T.n_bool (by decide +kernel)) aab))))))))) (fun x Q E h=>?_)
  replace h:kindD x=true/\Q (.d (.bl (wholeD x))):=h
  obtain ⟨k,h⟩:=h
  refine ajD rfl k (by decide) ?_
  rw [aln] at h
  refine br (fun e=>?_) (fun e=>?_)
  · refine ajD rfl k (by decide) (abb ?_)
    rw [e] at h
    exact h
  · rw [e] at h
    exact h
abbrev ail:List Str:=["value","least","most"]
theorem ahs:FnScope ail ["value","least","most"] (defScope ab8):=⟨rfl,rfl,rfl,by decide +kernel,rfl,by decide +kernel,by decide +kernel⟩
theorem ae2 (T:Tx P K mg base a d):FnG P w K mg base 2 (a abj) (d abj) ["value","least","most"] (sp3 fun x lo hi Q _=>kindD x=true/\∃ l m:Int,lo=.int l/\hi=.int m/\Q (.d (.bl (numD l m x)))):=by
  have G_is_whole:FnG P w K mg base 1 (a aaQ) (d aaQ) ["value"] (sp1 fun x Q _=>kindD x=true/\Q (.d (.bl (wholeD x)))):=ado T
  refine akZ T.F_is_number ahs (fun cdv A outer s H E hr hg=>(aai (aao (agF (aaf G_is_whole (hr.mono (by decide)) hg (tkOf rfl rfl rfl rfl) (acR T) (by rfl) T.m_is_whole T.F_is_whole.kp (aaa (aac (pv 0)) aab)) (afX (al6 op_le (aaT fun _ _ _=>.bl _) op_le (aaT fun _ _ _=>.bl _) (aad (pv 1)) (aad (pv 0)) (aad (pv 2)))))))) (fun x lo hi Q E h=>?_)
  replace h:kindD x=true/\∃ l m:Int,lo=.int l/\hi=.int m/\Q (.d (.bl (numD l m x))):=h
  obtain ⟨k,l,m,rfl,rfl,h⟩:=h
  refine ⟨rfl,rfl,_,rfl,k,?_⟩
  cases x with
  | int i=>
    refine brT ?_
    refine acO ?_
    have e:numD l m (.int i)=(decide (l<=i) && decide (i<=m)):=rfl
    rw [e] at h
    refine br (fun h1=>?_) (fun h1=>?_)
    · refine acO ?_
      rw [h1,Bool.true_and] at h
      exact h
    · rw [h1,Bool.false_and] at h
      exact h
  | ins _ _=>cases k
  | dk _=>cases k
  | dt _=>cases k
  | any=>cases k
  | raw _=>cases k
  | _=>exact brF h
abbrev ajz:List Str:=["value"]
theorem aic:FnScope ajz ["value"] (defScope acx):=⟨rfl,rfl,rfl,by decide +kernel,rfl,by decide +kernel,by decide +kernel⟩
theorem afL (T:Tx P K mg base a d):FnG P w K mg base 2 (a abF) (d abF) ["value"] (sp1 fun x Q _=>kindD x=true/\pairK x/\Q (.d (.bl (ratioD x)))):=by
  have G_is_whole:FnG P w K mg base 1 (a aaQ) (d aaQ) ["value"] (sp1 fun x Q _=>kindD x=true/\Q (.d (.bl (wholeD x)))):=ado T
  refine ac6 T.F_is_ratio aic (fun cdv A outer s H E hr hg=>(aah (acT (DW.dt (afW (acQ (acs (aaj call_isi aeR (by rfl) T.n_isinstance (by decide +kernel) (aaa (aad (pv 0)) (aaa (agq (T:="tuple") (by rfl) T.n_tuple (by decide +kernel)) aab))))) (afW (aaU (aey hr.units) ahp (aaj call_len aaR (by rfl) T.n_len PySem.boot_len (aaa (aad (pv 0)) aab)) aae (nomark _)) (afW (acQ (acs (aaf G_is_whole (hr.mono (by decide)) hg (tkOf rfl rfl rfl rfl) (acR T) (by rfl) T.m_is_whole T.F_is_whole.kp (aaa (aan ix_seq aag (aad (pv 0)) aae (fun _ _=>rfl)) aab)))) (ae4 (acQ (acs (aaf G_is_whole (hr.mono (by decide)) hg (tkOf rfl rfl rfl rfl) (acR T) (by rfl) T.m_is_whole T.F_is_whole.kp (aaa (aan ix_seq aag (aad (pv 0)) aae (fun _ _=>rfl)) aab))))))))) (aai (aao ajH)) abD)
      (aai (aao (agF (aeI op_ge (aaT fun _ _ _=>.bl _) (aan ix_seq aag (aad (pv 0)) aae (fun _ _=>rfl)) aae (nomark _)) (afX (aeI (aba hr.units) acH (ajh cr_gcd aj1 (by rfl) T.b_gcd (aaa (aan ix_seq aag (aad (pv 0)) aae (fun _ _=>rfl)) (aaa (aan ix_seq aag (aad (pv 0)) aae (fun _ _=>rfl)) aab))) aae (nomark _)))))))) (fun x Q E h=>?_)
  replace h:kindD x=true/\pairK x/\Q (.d (.bl (ratioD x))):=h
  obtain ⟨k,k2,h⟩:=h
  refine ajD rfl k (by decide) ?_
  cases x with
  | tup ds=>
    refine abb (brF ?_)
    refine akJ ?_
    refine acC ?_
    match ds,k2,h with
    | [],_,h=>exact brT (brT h)
    | [x],_,h=>
      rw [aew (by simp)] at h
      exact brT (brT h)
    | _::_::_::r,_,h=>
      rw [aew (by simp)] at h
      show Br (!decide (((r.length + 1 + 1 + 1:Nat):Int)=2)) _ _
      rw [decide_eq_false (by omega)]
      exact brT (brT h)
    | [x,y],k2,h=>
      refine brF ?_
      refine abl rfl ?_
      refine ⟨rfl,rfl,x,rfl,k2.1,?_⟩
      refine abb ?_
      cases x with
      | int i=>
        refine brF ?_
        refine abl rfl ?_
        refine ⟨rfl,rfl,y,rfl,k2.2,?_⟩
        refine abb ?_
        cases y with
        | int j=>
          refine brF ?_
          refine abl rfl ?_
          refine acO ?_
          have e:ratioD (.tup [.int i,.int j])=(decide (1<=j) && decide (gcI i j=1)):=rfl
          rw [e] at h
          refine br (fun h1=>?_) (fun h1=>?_)
          · refine abl rfl ?_
            refine abl rfl ?_
            refine aow ?_
            refine acC ?_
            rw [h1,Bool.true_and] at h
            exact h
          · rw [h1,Bool.false_and] at h
            exact h
        | ins _ _=>cases k2.2
        | dk _=>cases k2.2
        | dt _=>cases k2.2
        | any=>cases k2.2
        | raw _=>cases k2.2
        | _=>exact brT h
      | ins _ _=>cases k2.1
      | dk _=>cases k2.1
      | dt _=>cases k2.1
      | any=>cases k2.1
      | raw _=>cases k2.1
      | _=>exact brT (brT h)
  | ins _ _=>cases k
  | dk _=>cases k
  | dt _=>cases k
  | any=>cases k
  | raw _=>cases k
  | kt _=>exact k2.elim
  | _=>exact abb (brT (brT h))
abbrev aik:List Str:=["value"]
theorem ahr:FnScope aik ["value"] (defScope ab7):=⟨rfl,rfl,rfl,by decide +kernel,rfl,by decide +kernel,by decide +kernel⟩
theorem ahF (T:Tx P K mg base a d):FnG P w K mg base 3 (a abP) (d abP) ["value"] (sp1 fun x Q _=>kindD x=true/\pairK x/\Q (.d (.bl (wholeD x || ratioD x)))):=by
  have G_is_ratio:FnG P w K mg base 2 (a abF) (d abF) ["value"] (sp1 fun x Q _=>kindD x=true/\pairK x/\Q (.d (.bl (ratioD x)))):=afL T
  have G_is_whole:FnG P w K mg base 1 (a aaQ) (d aaQ) ["value"] (sp1 fun x Q _=>kindD x=true/\Q (.d (.bl (wholeD x)))):=ado T
  refine ac6 T.F_is_valued ahr (fun cdv A outer s H E hr hg=>(aai (aao (de_or (aaf G_is_whole (hr.mono (by decide)) hg (tkOf rfl rfl rfl rfl) (acR T) (by rfl) T.m_is_whole T.F_is_whole.kp (aaa (aac (pv 0)) aab)) (afX (aaf G_is_ratio (hr.mono (by decide)) hg (tkOf rfl rfl rfl rfl) (ae5 T) (by rfl) T.m_is_ratio T.F_is_ratio.kp (aaa (aac (pv 0)) aab))))))) (fun x Q E h=>?_)
  replace h:kindD x=true/\pairK x/\Q (.d (.bl (wholeD x || ratioD x))):=h
  obtain ⟨k,k2,h⟩:=h
  refine ⟨rfl,rfl,x,rfl,k,?_⟩
  cases e:wholeD x with
  | true=>rw [e,Bool.true_or] at h;exact brT h
  | false=>
    rw [e,Bool.false_or] at h
    exact brF ⟨rfl,rfl,x,rfl,k,k2,h⟩
abbrev alM:List Str:=["top","bottom","by"]
theorem ahq:FnScope alM ["top","bottom"] (defScope adm):=⟨rfl,rfl,rfl,by decide +kernel,rfl,by decide +kernel,by decide +kernel⟩
theorem akp (T:Tx P K mg base a d):FnG P w K mg base 1 (a ac5) (d ac5) ["top","bottom"] (sp2 fun x y Q _=>∃ n m:Int,x=.int n/\y=.int m/\0 < m/\m.natAbs < 2 ^ 8000/\Q (.d (rD (Rat.divInt n m)))):=by
  refine adi T.F_lowest ahq (fun cdv A outer s H E hr hg=>(aah (abu (i:=2) ahq.nd rfl (Or.inl rfl) (ajh cr_gcd aj1 (by rfl) T.b_gcd (aaa (aad (pv 0)) (aaa (aad (pv 1)) aab))))
      (aai (aao (ab1 (aaa (ahb (aac (pv 0)) (aac (pv 2))) (aaa (ahb (aac (pv 1)) (aac (pv 2))) aab))))))) (fun x y Q E h=>?_)
  replace h:∃ n m:Int,x=.int n/\y=.int m/\0 < m/\m.natAbs < 2 ^ 8000/\Q (.d (rD (Rat.divInt n m))):=h
  obtain ⟨n,m,rfl,rfl,h1,h2,h⟩:=h
  refine aeQ (.int (gcI n m)) (fun Q hQ=>aow hQ) ?_
  refine agE (ag4 h1 h2) ?_
  refine agE (ag4 (n:=n) h1 h2) ?_
  rw [akd h1] at h
  exact adh rfl rfl h
abbrev pRof (K:PySem.W.Frag) (x:D) (Q:DV->Prop) (E:XE'):Prop:=kindD x=true/\pairK x/\(∀ q,ratOf x=some q->Q (.d (rD q)))/\(ratOf x=none->E (.ref (He.ga K "InvalidRatio")) (acX x))
abbrev ajx:List Str:=["value"]
theorem aia:FnScope ajx ["value"] (defScope acv):=⟨rfl,rfl,rfl,by decide +kernel,rfl,by decide +kernel,by decide +kernel⟩
theorem afK (T:Tx P K mg base a d):FnG P w K mg base 3 (a abE) (d abE) ["value"] (sp1 fun x Q E=>pRof K x Q E):=by
  have G_is_ratio:FnG P w K mg base 2 (a abF) (d abF) ["value"] (sp1 fun x Q _=>kindD x=true/\pairK x/\Q (.d (.bl (ratioD x)))):=afL T
  have G_is_whole:FnG P w K mg base 1 (a aaQ) (d aaQ) ["value"] (sp1 fun x Q _=>kindD x=true/\Q (.d (.bl (wholeD x)))):=ado T
  refine ac6 T.F_ratio_of aia (fun cdv A outer s H E hr hg=>(aah (acT (acs (aaf G_is_whole (hr.mono (by decide)) hg (tkOf rfl rfl rfl rfl) (acR T) (by rfl) T.m_is_whole T.F_is_whole.kp (aaa (aac (pv 0)) aab))) (aai (aao (ab1 (aaa (aac (pv 0)) (aaa aae aab))))) abD)
      (aah (acT (acQ (acs (aaf G_is_ratio (hr.mono (by decide)) hg (tkOf rfl rfl rfl rfl) (ae5 T) (by rfl) T.m_is_ratio T.F_is_ratio.kp (aaa (aac (pv 0)) aab)))) (aai (acG rfl (tkOf rfl rfl rfl rfl) T.x_InvalidRatio (hr.mono (by decide)) (by rfl) T.m_InvalidRatio (aaa (aac (pv 0)) aab))) abD)
      (aai (aao (aac (pv 0))))))) (fun x Q E h=>?_)
  replace h:pRof K x Q E:=h
  obtain ⟨k,k2,h1,h2⟩:=h
  refine ⟨rfl,rfl,x,rfl,k,?_⟩
  refine abb ?_
  cases e:ratOf x with
  | some q=>
    rcases ratOf_some e with ⟨i,rfl,z⟩ | ⟨z1,z2,z3⟩
    · refine brT (adh rfl rfl ?_)
      have:=h1 q e
      rw [z] at this
      exact this
    · rw [z1]
      refine brF ⟨rfl,rfl,x,rfl,k,k2,abb ?_⟩
      rw [z2]
      refine brF ?_
      have:=h1 q e
      rw [<- z3] at this
      exact this
  | none=>
    obtain ⟨z1,z2⟩:=ajt k2 e
    rw [z1]
    refine brF ⟨rfl,rfl,x,rfl,k,k2,abb ?_⟩
    rw [z2]
    exact brT ⟨rfl,afr (h2 e)⟩
abbrev aom:List Str:=["one","other"]
theorem amU:FnScope aom ["one","other"] (defScope afH):=⟨rfl,rfl,rfl,by decide +kernel,rfl,by decide +kernel,by decide +kernel⟩
theorem am5 (T:Tx P K mg base a d):FnG P w K mg base 2 (a ae3) (d ae3) ["one","other"] (sp2 fun x y Q _=>∃ p q:Rat,x=rD p/\y=rD q/\Nb 3900 p/\Nb 3900 q/\Q (.d (rD (p + q)))):=by
  have G_lowest:FnG P w K mg base 1 (a ac5) (d ac5) ["top","bottom"] (sp2 fun x y Q _=>∃ n m:Int,x=.int n/\y=.int m/\0 < m/\m.natAbs < 2 ^ 8000/\Q (.d (rD (Rat.divInt n m)))):=akp T
  refine adi T.F_plus amU (fun cdv A outer s H E hr hg=>(aah (acT (aaU (aba hr.units) acH (aan ix_seq aag (aad (pv 0)) aae (fun _ _=>rfl)) (aan ix_seq aag (aad (pv 1)) aae (fun _ _=>rfl)) (nomark _)) (aai (aao (aeH (aaU (aba hr.units) acH (aan ix_seq aag (aad (pv 0)) aae (fun _ _=>rfl)) aae (nomark _)) (ab1 (aaa (adj (aan ix_seq aag (aad (pv 0)) aae (fun _ _=>rfl)) (aan ix_seq aag (aad (pv 1)) aae (fun _ _=>rfl))) (aaa aae aab))) (aaf G_lowest (hr.mono (by decide)) hg (tkOf rfl rfl rfl rfl) (agI T) (by rfl) T.m_lowest T.F_lowest.kp (aaa (adj (aan ix_seq aag (aad (pv 0)) aae (fun _ _=>rfl)) (aan ix_seq aag (aad (pv 1)) aae (fun _ _=>rfl))) (aaa (aan ix_seq aag (aad (pv 0)) aae (fun _ _=>rfl)) aab)))))) abD)
      (aai (aao (aaf G_lowest (hr.mono (by decide)) hg (tkOf rfl rfl rfl rfl) (agI T) (by rfl) T.m_lowest T.F_lowest.kp (aaa (adj (adw (aan ix_seq aag (aad (pv 0)) aae (fun _ _=>rfl)) (aan ix_seq aag (aad (pv 1)) aae (fun _ _=>rfl))) (adw (aan ix_seq aag (aad (pv 1)) aae (fun _ _=>rfl)) (aan ix_seq aag (aad (pv 0)) aae (fun _ _=>rfl)))) (aaa (adw (aan ix_seq aag (aad (pv 0)) aae (fun _ _=>rfl)) (aan ix_seq aag (aad (pv 1)) aae (fun _ _=>rfl))) aab))))))) (fun x y Q E h=>?_)
  replace h:∃ p q:Rat,x=rD p/\y=rD q/\Nb 3900 p/\Nb 3900 q/\Q (.d (rD (p + q))):=h
  obtain ⟨p,q,rfl,rfl,hp,hq,h⟩:=h
  refine abl rfl (abl rfl (acC ?_))
  refine br (fun h1=>?_) (fun h1=>?_)
  · have e:(p.den:Int)=q.den:=of_decide_eq_true h1
    refine abl rfl (acC ?_)
    refine br (fun h2=>?_) (fun h2=>?_)
    · have e2:(p.den:Int)=1:=of_decide_eq_true h2
      refine abl rfl (abl rfl (aeD (adh rfl rfl ?_)))
      have e3:rD (p + q)=rt (p.num + q.num) 1:=by
        rw [aiR e,e2,aoa (by decide) (by unfold gcI;simp)]
      rw [e3] at h
      exact h
    · refine abl rfl (abl rfl (aeD (abl rfl ?_)))
      refine ⟨rfl,rfl,_,_,rfl,_,_,rfl,rfl,den_pos p,?_,?_⟩
      · exact Nat.lt_of_lt_of_le (nbd hp) (Nat.pow_le_pow_right (by decide) (by decide))
      · rw [<- aiR e];exact h
  · refine abl rfl (abl rfl (aea (mulW hp.n (nbd hq) (by decide)) ?_))
    refine abl rfl (abl rfl (aea (mulW hq.n (nbd hp) (by decide)) (aeD ?_)))
    refine abl rfl (abl rfl (aea (mulW (nbd hp) (nbd hq) (by decide)) ?_))
    refine ⟨rfl,rfl,_,_,rfl,_,_,rfl,rfl,Int.mul_pos (den_pos p) (den_pos q),ajf hp hq,?_⟩
    rw [agQ];exact h
abbrev am8:List Str:=["one","other"]
theorem alz:FnScope am8 ["one","other"] (defScope aef):=⟨rfl,rfl,rfl,by decide +kernel,rfl,by decide +kernel,by decide +kernel⟩
theorem alJ (T:Tx P K mg base a d):FnG P w K mg base 1 (a adM) (d adM) ["one","other"] (sp2 fun x y Q _=>∃ p q:Rat,x=rD p/\y=rD q/\Nb 3900 p/\Nb 3900 q/\Q (.d (.bl (decide (p < q))))):=by
  refine adi T.F_below alz (fun cdv A outer s H E hr hg=>(aai (aao (aeI op_lt (aaT fun _ _ _=>.bl _) (adw (aan ix_seq aag (aad (pv 0)) aae (fun _ _=>rfl)) (aan ix_seq aag (aad (pv 1)) aae (fun _ _=>rfl))) (adw (aan ix_seq aag (aad (pv 1)) aae (fun _ _=>rfl)) (aan ix_seq aag (aad (pv 0)) aae (fun _ _=>rfl))) (nomark _))))) (fun x y Q E h=>?_)
  replace h:∃ p q:Rat,x=rD p/\y=rD q/\Nb 3900 p/\Nb 3900 q/\Q (.d (.bl (decide (p < q)))):=h
  obtain ⟨p,q,rfl,rfl,hp,hq,h⟩:=h
  refine abl rfl (abl rfl (aea (mulW hp.n (nbd hq) (by decide)) ?_))
  refine abl rfl (abl rfl (aea (mulW hq.n (nbd hp) (by decide)) ?_))
  refine acO ?_
  rw [amg];exact h
abbrev ahP:List Str:=["value","sign"]
theorem aeS:FnScope ahP ["value"] (defScope acL):=⟨rfl,rfl,rfl,by decide +kernel,rfl,by decide +kernel,by decide +kernel⟩
theorem ajw (T:Tx P K mg base a d):FnG P w K mg base 1 (a acP) (d acP) ["value"] (sp1 fun x Q _=>kindD x=true/\(∀ z,x=.str z->z.length<=szl)/\Q (.d (.bl (nameB x)))):=by
  refine ac6 T.F_is_name aeS (fun cdv A outer s H E hr hg=>(aah (acT (DW.dt (afW (acQ (acs (aaj call_isi aeR (by rfl) T.n_isinstance (by decide +kernel) (aaa (aad (pv 0)) (aaa (agq (T:="str") (by rfl) T.n_str (by decide +kernel)) aab))))) (ae4 (acQ (aje op_le (aaT fun _ _ _=>.bl _) op_le (aaT fun _ _ _=>.bl _) aae (aaj call_len aaR (by rfl) T.n_len PySem.boot_len (aaa (aad (pv 0)) aab)) aae))))) (aai (aao ajH)) abD)
      (aai (aao (aaj (cr_all rfl) aj2 (by rfl) T.n_all (by decide +kernel) (aaa (acU (own:=[("sign",1)]) rfl aeS.nd (abX (aac (pv 0))) (blkOk_by (own:=[("sign",1)]) (N:=ahP) (sc:=(defScope acL)) (by decide +kernel)) (fun _ _ _ _ _=>(aam (i:=1) aeS.nd rfl (Or.inl rfl))) (fun _ _ _ _ _=>aaJ) (fun _ _ _ _ _=>(aeI adn afE (aad (pv 1)) (adZ (by rfl) T.c_LETTERS) (by rfl)))) aab)))))) (fun x Q E h=>?_)
  replace h:kindD x=true/\(∀ z,x=.str z->z.length<=szl)/\Q (.d (.bl (nameB x))):=h
  obtain ⟨k,hz,h⟩:=h
  refine ajD rfl k (by decide) ?_
  cases x with
  | str z=>
    have hz:=hz z rfl
    replace h:Q (.d (.bl (nameOk z))):=h
    refine abb (brF ?_)
    refine akK hz ?_
    refine acO ?_
    refine br (fun h1=>?_) (fun h1=>?_)
    · refine acO ?_
      have h1':1<=z.length:=by have:=of_decide_eq_true h1;omega
      cases h2:decide ((z.length:Int)<=5) with
      | false=>
        have h2':=of_decide_eq_false h2
        refine brT ?_
        have:nameOk z=false:=by
          unfold nameOk
          rw [decide_eq_false (show ¬ z.length<=5 by omega)];simp
        rw [this] at h;exact h
      | true=>
        have h2':=of_decide_eq_true h2
        refine brF ?_
        refine ank ?_
        refine adb lowD _ (by rw [ahn];exact hz) (fun d hd M A m=>?_) ?_
        · obtain ⟨c,hc,rfl⟩:=ahT hd
          refine brT ?_
          refine l_inC rfl ?_
          exact m
        · refine aox (bs:=(z.cps.toList.map low)) rfl ?_ ?_
          · rw [<- afY low];unfold DL.signs;rw [List.map_map];rfl
          · rw [List.all_map]
            have:nameOk z=z.cps.toList.all low:=by unfold nameOk;rw [decide_eq_true h1',decide_eq_true (show z.length<=5 by omega)];rfl
            rw [this] at h;exact h
    · refine brT ?_
      have h1':=of_decide_eq_false h1
      have:nameOk z=false:=by
        unfold nameOk
        rw [decide_eq_false (show ¬ 1<=z.length by omega)];rfl
      rw [this] at h;exact h
  | ins _ _=>cases k
  | dk _=>cases k
  | dt _=>cases k
  | any=>cases k
  | raw _=>cases k
  | _=>exact abb (brT (brT h))
abbrev layersD:List D:=[.str "foot",.str "cart"]
def layB (m:Nat):D->Bool
  | .str z=>inF (.str z) (layersD.take m)
  | _=>false
abbrev ajA:List Str:=["value","layers"]
theorem aid:FnScope ajA ["value","layers"] (defScope acy):=⟨rfl,rfl,rfl,by decide +kernel,rfl,by decide +kernel,by decide +kernel⟩
theorem aih (T:Tx P K mg base a d):FnG P w K mg base 1 (a ach) (d ach) ["value","layers"] (sp2 fun x y Q _=>kindD x=true/\∃ m:Nat,y=.int m/\m<=2/\Q (.d (.bl (layB m x)))):=by
  refine adi T.F_is_layer aid (fun cdv A outer s H E hr hg=>(aai (aao (agF (aaj call_isi aeR (by rfl) T.n_isinstance (by decide +kernel) (aaa (aad (pv 0)) (aaa (agq (T:="str") (by rfl) T.n_str (by decide +kernel)) aab))) (afX (aeI adn afE (aad (pv 0)) (agr (adZ (by rfl) T.c_LAYERS) ade (adc (aac (pv 1)))) (by rfl))))))) (fun x y Q E h=>?_)
  replace h:kindD x=true/\∃ m:Nat,y=.int m/\m<=2/\Q (.d (.bl (layB m x))):=h
  obtain ⟨k,m,rfl,hm,h⟩:=h
  refine ajD rfl k (by decide) ?_
  cases x with
  | str z=>
    refine brT ?_
    refine aos ?_
    rw [al7 (xs:=layersD) (k:=m) hm]
    refine anl rfl ?_ h
    match m,hm with
    | 0,_=>rfl
    | 1,_=>rfl
    | 2,_=>rfl
  | ins _ _=>cases k
  | dk _=>cases k
  | dt _=>cases k
  | any=>cases k
  | raw _=>cases k
  | _=>exact brF h
abbrev afQ:List Str:=["value","row"]
theorem adD:FnScope afQ ["value"] (defScope abK):=⟨rfl,rfl,rfl,by decide +kernel,rfl,by decide +kernel,by decide +kernel⟩
theorem ahG (T:Tx P K mg base a d):FnG P w K mg base 1 (a abQ) (d abQ) ["value"] (sp1 fun x Q _=>∃ (n:Nat) (e:Nat->Nat->D),x=tabX n e/\1<=n/\n<=9/\Q (.d (.bl true))):=by
  refine ac6 T.F_is_square adD (fun cdv A outer s H E hr hg=>(aah (acT (DW.dt (afW (acQ (acs (aaj ah1 aiQ (by rfl) T.n_isinstance (by decide +kernel) (aaa (aad (pv 0)) (aaa (ab1 (aaa (agq (T:="list") (by rfl) T.n_list (by decide +kernel)) (aaa (agq (T:="tuple") (by rfl) T.n_tuple (by decide +kernel)) aab))) aab))))) (ae4 (acQ (aje op_le (aaT fun _ _ _=>.bl _) op_le (aaT fun _ _ _=>.bl _) aae (aaj call_len aaR (by rfl) T.n_len PySem.boot_len (aaa (aad (pv 0)) aab)) (adZ (by rfl) T.c_MOST_PLACES)))))) (aai (aao ajH)) abD)
      (aai (aao (aaj (cr_all rfl) aj2 (by rfl) T.n_all (by decide +kernel) (aaa (acU (own:=[("row",1)]) rfl adD.nd (abX (aac (pv 0))) (blkOk_by (own:=[("row",1)]) (N:=afQ) (sc:=(defScope abK)) (by decide +kernel)) (fun _ _ _ _ _=>(aam (i:=1) adD.nd rfl (Or.inl rfl))) (fun _ _ _ _ _=>aaJ) (fun _ _ _ _ _=>(agF (aaj ah1 aiQ (by rfl) T.n_isinstance (by decide +kernel) (aaa (aad (pv 1)) (aaa (ab1 (aaa (agq (T:="list") (by rfl) T.n_list (by decide +kernel)) (aaa (agq (T:="tuple") (by rfl) T.n_tuple (by decide +kernel)) aab))) aab))) (afX (aeI (aba hr.units) acH (aaj call_len aaR (by rfl) T.n_len PySem.boot_len (aaa (aad (pv 1)) aab)) (aaj call_len aaR (by rfl) T.n_len PySem.boot_len (aaa (aad (pv 0)) aab)) (nomark _)))))) aab)))))) (fun x Q E h=>?_)
  replace h:∃ (n:Nat) (e:Nat->Nat->D),x=tabX n e/\1<=n/\n<=9/\Q (.d (.bl true)):=h
  obtain ⟨n,e,rfl,h1,h9,h⟩:=h
  have hz:szl=16777216:=rfl
  refine adh rfl rfl ?_
  refine amo (Ts:=["list","tuple"]) (d:=tabX n e) rfl rfl rfl (by decide) ?_
  refine abb (brF ?_)
  refine aed ?_
  refine acO ?_
  rw [decide_eq_true (show (1:Int)<=n by omega)]
  refine brT ?_
  refine acO ?_
  rw [decide_eq_true (show (n:Int)<=9 by omega)]
  refine brF ?_
  refine abm ?_
  refine adb (fun _=>.bl true) _ (by rw [List.length_map,List.length_range];omega) (fun d hd M A m=>?_) ?_
  · obtain ⟨i,_,rfl⟩:=List.mem_map.mp hd
    refine brT ?_
    refine adh rfl rfl ?_
    refine amo (Ts:=["list","tuple"]) (d:=rowX n (e i)) rfl rfl rfl (by decide) ?_
    refine brT ?_
    refine abk (ds:=(List.range n).map (e i)) rfl ?_
    refine aed ?_
    rw [List.length_map,List.length_range]
    refine acC ?_
    rw [decide_eq_true rfl]
    exact m
  · refine aox (bs:=((List.range n).map fun i=>rowX n (e i)).map fun _=>true) rfl (afY _ _) ?_
    have e0:((((List.range n).map fun i=>rowX n (e i)).map fun _=>true).all id)=true:=by
      rw [List.all_eq_true]
      intro b hb
      obtain ⟨_,_,rfl⟩:=List.mem_map.mp hb
      rfl
    rw [e0]
    exact h
structure TabOk (n:Nat) (e:Nat->Nat->D) (f:Nat->Nat->Rat):Prop where
  l1:1<=n
  l9:n<=9
  pl:∀ i j,i < n->j < n->Pl (e i j)
  rt:∀ i j,i < n->j < n->ratOf (e i j)=some (f i j)
  nb:∀ i j,i < n->j < n->Nb 1900 (f i j)
  gd:GoodF n f
theorem anW {d:D} {q:Rat} (h:ratOf d=some q):(wholeD d || ratioD d)=true:=by
  rcases ratOf_some h with ⟨i,rfl,_⟩ | ⟨_,z,_⟩
  · rfl
  · rw [z,Bool.or_true]
theorem am6 {q:Rat} (h:0<=q):decide (q.num < 0)=false:=decide_eq_false (by have:=Rat.num_nonneg.mpr h;omega)
abbrev adq:List Str:=["rows","size","start","goal","value","sums","by","one"]
theorem aaw:FnScope adq ["rows"] (defScope aaX):=⟨rfl,rfl,rfl,by decide +kernel,rfl,by decide +kernel,by decide +kernel⟩
theorem agg (T:Tx P K mg base a d):FnG P w K mg base 5 (a abc) (d abc) ["rows"] (sp1 fun x Q _=>∃ (n:Nat) (e:Nat->Nat->D) (f:Nat->Nat->Rat),x=tabX n e/\TabOk n e f/\Q (.d .non)):=by
  have G_below:FnG P w K mg base 1 (a adM) (d adM) ["one","other"] (sp2 fun x y Q _=>∃ p q:Rat,x=rD p/\y=rD q/\Nb 3900 p/\Nb 3900 q/\Q (.d (.bl (decide (p < q))))):=alJ T
  have G_is_valued:FnG P w K mg base 3 (a abP) (d abP) ["value"] (sp1 fun x Q _=>kindD x=true/\pairK x/\Q (.d (.bl (wholeD x || ratioD x)))):=ahF T
  have G_plus:FnG P w K mg base 2 (a ae3) (d ae3) ["one","other"] (sp2 fun x y Q _=>∃ p q:Rat,x=rD p/\y=rD q/\Nb 3900 p/\Nb 3900 q/\Q (.d (rD (p + q)))):=am5 T
  have G_ratio_of:FnG P w K mg base 3 (a abE) (d abE) ["value"] (sp1 fun x Q E=>pRof K x Q E):=afK T
  refine ac6 T.F_first_fault aaw (fun cdv A outer s H E hr hg=>(aah (abu (i:=1) aaw.nd rfl (Or.inl rfl) (aaj call_len aaR (by rfl) T.n_len PySem.boot_len (aaa (aad (pv 0)) aab)))
      (aah (adO (passes_of rfl) rfl (acf (by rfl) T.n_range (aaa (aac (pv 1)) aab)) (aam (i:=2) aaw.nd rfl (Or.inr rfl)) (aai (adO (passes_of rfl) rfl (acf (by rfl) T.n_range (aaa (aac (pv 1)) aab)) (aam (i:=3) aaw.nd rfl (Or.inr rfl)) (aah (abu (i:=4) aaw.nd rfl (Or.inl rfl) (aan ix_seq aag (aan ix_seq aag (aad (pv 0)) (aac (pv 2)) (fun _ _=>rfl)) (aac (pv 3)) (fun _ _=>rfl)))
      (aai (acT (DW.dt (afW (acQ (acs (aaf G_is_valued (hr.mono (by decide)) hg (tkOf rfl rfl rfl rfl) (ahe T) (by rfl) T.m_is_valued T.F_is_valued.kp (aaa (aac (pv 4)) aab)))) (afW (aaU op_lt (aaT fun _ _ _=>.bl _) (aan ix_seq aag (aaf G_ratio_of (hr.mono (by decide)) hg (tkOf rfl rfl rfl rfl) (acj T) (by rfl) T.m_ratio_of T.F_ratio_of.kp (aaa (aac (pv 4)) aab)) aae (fun _ _=>rfl)) aae (nomark _)) (ae4 (DW.dt (ajc (aaU (aba hr.units) acH (aad (pv 2)) (aad (pv 3)) (nomark _)) (aiA (aaU (aey hr.units) ahp (aaf G_ratio_of (hr.mono (by decide)) hg (tkOf rfl rfl rfl rfl) (acj T) (by rfl) T.m_ratio_of T.F_ratio_of.kp (aaa (aac (pv 4)) aab)) (adZ (by rfl) T.c_ZERO) (nomark _))))))))) (aai (aao (ab1 (aaa (aac (pv 2)) (aaa (aac (pv 3)) aab))))) abD))))))
      (aah (adO (passes_of rfl) rfl (acf (by rfl) T.n_range (aaa (aac (pv 1)) aab)) (aam (i:=2) aaw.nd rfl (Or.inr rfl)) (aai (adO (passes_of rfl) rfl (acf (by rfl) T.n_range (aaa (aac (pv 1)) aab)) (aam (i:=3) aaw.nd rfl (Or.inr rfl)) (aah (afj (i:=5) (own:=[("by",6)]) rfl aaw.nd rfl rfl (sw_true rfl rfl rfl (by decide +kernel)) (acf (by rfl) T.n_range (aaa (aac (pv 1)) aab)) (blkOk_by (own:=[("by",6)]) (N:=adq) (sc:=(defScope aaX)) (by decide +kernel)) (fun _ _ _ _ _=>(aam (i:=6) aaw.nd rfl (Or.inl rfl))) (fun _ _ _ _ _=>aaJ) (fun _ _ _ _ _=>(aaf G_plus (hr.mono (by decide)) hg ac4 (al8 T) (by rfl) T.m_plus T.F_plus.kp (aaa (aaf G_ratio_of (hr.mono (by decide)) hg ac4 (acj T) (by rfl) T.m_ratio_of T.F_ratio_of.kp (aaa (aan ix_seq aag (aan ix_seq aag (aad (pv 0)) (aac (pv 2)) (fun _ _=>rfl)) (aac (pv 6)) (fun _ _=>rfl)) aab)) (aaa (aaf G_ratio_of (hr.mono (by decide)) hg ac4 (acj T) (by rfl) T.m_ratio_of T.F_ratio_of.kp (aaa (aan ix_seq aag (aan ix_seq aag (aad (pv 0)) (aac (pv 6)) (fun _ _=>rfl)) (aac (pv 3)) (fun _ _=>rfl)) aab)) aab)))))
      (aai (acT (acs (aaj (cr_any rfl) amR (by rfl) T.n_any (by decide +kernel) (aaa (acU (own:=[("one",7)]) rfl aaw.nd (abX (aac (pv 5))) (blkOk_by (own:=[("one",7)]) (N:=adq) (sc:=(defScope aaX)) (by decide +kernel)) (fun _ _ _ _ _=>(aam (i:=7) aaw.nd rfl (Or.inl rfl))) (fun _ _ _ _ _=>aaJ) (fun _ _ _ _ _=>(aaf G_below (hr.mono (by decide)) hg ac4 (alk T) (by rfl) T.m_below T.F_below.kp (aaa (aac (pv 7)) (aaa (aaf G_ratio_of (hr.mono (by decide)) hg ac4 (acj T) (by rfl) T.m_ratio_of T.F_ratio_of.kp (aaa (aan ix_seq aag (aan ix_seq aag (aad (pv 0)) (aac (pv 2)) (fun _ _=>rfl)) (aac (pv 3)) (fun _ _=>rfl)) aab)) aab))))) aab))) (aai (aao (ab1 (aaa (aac (pv 2)) (aaa (aac (pv 3)) aab))))) abD))))))
      (aai (aao aeG)))))) (fun x Q E h=>?_)
  replace h:∃ (n:Nat) (e:Nat->Nat->D) (f:Nat->Nat->Rat),x=tabX n e/\TabOk n e f/\Q (.d .non):=h
  obtain ⟨n,e,f,rfl,tk,h⟩:=h
  have hz:szl=16777216:=rfl
  have l9:=tk.l9
  have int0:∀ i:Nat,(0:Int) + (i:Int)=(i:Int):=fun i=>by omega
  have rof:∀ (i j:Nat) (hi:i < n) (hj:j < n) (QQ:DV->Prop) (EE:XE'),QQ (.d (rD (f i j)))->pRof K (e i j) QQ EE:=fun i j hi hj QQ EE q=>
    ⟨(tk.pl i j hi hj).kind,(tk.pl i j hi hj).pair,(fun q' z=>by rw [tk.rt i j hi hj] at z;cases z;exact q),(fun z=>by rw [tk.rt i j hi hj] at z;cases z)⟩
  refine aeQ (.int n) (fun Q hQ=>aed hQ) ?_
  refine aa1 (fun s=>∃ a2 a3 a4,s=[some (.d (tabX n e)),some (.d (.int n)),a2,a3,a4,none,none,none]) (fun N hN=>?_) (fun s hs=>?_)
  · refine ac2 (by omega) (by omega) ?_
    refine adW (fun s=>∃ a2 a3 a4,s=[some (.d (tabX n e)),some (.d (.int n)),a2,a3,a4,none,none,none]) _ _ ⟨_,_,_,rfl⟩ (fun N1 d s hN1 hd hs=>?_) hN
    obtain ⟨a2,a3,a4,rfl⟩:=hs
    obtain ⟨i,hi,rfl⟩:=ab6 hd
    rw [int0]
    have hi:i < n:=by omega
    refine ac2 (by omega) (by omega) ?_
    refine adW (fun s=>∃ a3 a4,s=[some (.d (tabX n e)),some (.d (.int n)),some (.d (.int (i:Int))),a3,a4,none,none,none]) _ _ ⟨_,_,rfl⟩ (fun N2 d s hN2 hd hs=>?_) (fun s ⟨a3,a4,hs⟩=>hN1 s ⟨_,a3,a4,hs⟩)
    obtain ⟨a3,a4,rfl⟩:=hs
    obtain ⟨j,hj,rfl⟩:=ab6 hd
    rw [int0]
    have hj:j < n:=by omega
    refine aeQ (e i j) (fun Q hQ=>ag0 hi (ag1 hj hQ)) ?_
    refine ⟨rfl,rfl,_,rfl,(tk.pl i j hi hj).kind,(tk.pl i j hi hj).pair,?_⟩
    rw [anW (tk.rt i j hi hj)]
    refine abb (brF ?_)
    refine ⟨rfl,rfl,_,rfl,rof i j hi hj _ _ ?_⟩
    refine abl rfl (acO ?_)
    rw [am6 (tk.gd.pos i j hi hj)]
    refine brF ?_
    refine acC ?_
    refine br (fun z=>?_) (fun _=>brF (hN2 _ ⟨_,_,rfl⟩))
    have ij:i=j:=by have:=of_decide_eq_true z;omega
    subst ij
    refine ⟨rfl,rfl,_,rfl,rof i i hi hi _ _ ?_⟩
    rw [tk.gd.dia i hi]
    refine ann (p:=0) (q:=0) ?_
    exact brF (hN2 _ ⟨_,_,rfl⟩)
  obtain ⟨a2,a3,a4,rfl⟩:=hs
  refine aa1 (fun s=>∃ a2 a3 a4 a5,s=[some (.d (tabX n e)),some (.d (.int n)),a2,a3,a4,a5,none,none]) (fun N hN=>?_) (fun s hs=>?_)
  · refine ac2 (by omega) (by omega) ?_
    refine adW (fun s=>∃ a2 a3 a4 a5,s=[some (.d (tabX n e)),some (.d (.int n)),a2,a3,a4,a5,none,none]) _ _ ⟨_,_,_,_,rfl⟩ (fun N1 d s hN1 hd hs=>?_) hN
    obtain ⟨a2,a3,a4,a5,rfl⟩:=hs
    obtain ⟨i,hi,rfl⟩:=ab6 hd
    rw [int0]
    have hi:i < n:=by omega
    refine ac2 (by omega) (by omega) ?_
    refine adW (fun s=>∃ a3 a4 a5,s=[some (.d (tabX n e)),some (.d (.int n)),some (.d (.int (i:Int))),a3,a4,a5,none,none]) _ _ ⟨_,_,_,rfl⟩ (fun N2 d s hN2 hd hs=>?_) (fun s ⟨a3,a4,a5,hs⟩=>hN1 s ⟨_,a3,a4,a5,hs⟩)
    obtain ⟨a3,a4,a5,rfl⟩:=hs
    obtain ⟨j,hj,rfl⟩:=ab6 hd
    rw [int0]
    have hj:j < n:=by omega
    refine aev ((List.range n).map fun k=>rD (f i k + f k j)) (fun Q hQ=>?_) ?_
    · refine ac2 (by omega) (by omega) ?_
      refine aiq (fun k=>rD (f i k + f k j)) _ (by omega) (fun k hk M A m=>?_) hQ
      refine brT ?_
      refine ag0 hi (ag1 hk ?_)
      refine ⟨rfl,rfl,_,rfl,rof i k hi hk _ _ ?_⟩
      refine ag0 hk (ag1 hj ?_)
      refine ⟨rfl,rfl,_,rfl,rof k j hk hj _ _ ?_⟩
      exact ⟨rfl,rfl,_,_,rfl,_,_,rfl,rfl,(tk.nb i k hi hk).mono (by decide),(tk.nb k j hk hj).mono (by decide),m⟩
    refine abm ?_
    refine adb (fun _=>.bl false) _ (by rw [List.length_map,List.length_range];omega) (fun d hd M A m=>?_) ?_
    · obtain ⟨k,hk,rfl⟩:=List.mem_map.mp hd
      have hk:=List.mem_range.mp hk
      refine brT ?_
      refine ag0 hi (ag1 hj ?_)
      refine ⟨rfl,rfl,_,rfl,rof i j hi hj _ _ ?_⟩
      refine ⟨rfl,rfl,_,_,rfl,_,_,rfl,rfl,(aks (tk.nb i k hi hk) (tk.nb k j hk hj)).mono (by decide),(tk.nb i j hi hj).mono (by decide),?_⟩
      have t:=tk.gd.tri i j k hi hj hk
      rw [decide_eq_false (by grind)]
      exact m
    · refine l_any (bs:=((List.range n).map fun k=>rD (f i k + f k j)).map fun _=>false) rfl (afY _ _) ?_
      have e0:(((List.range n).map fun k=>rD (f i k + f k j)).map fun _=>false).any id=false:=by
        rw [List.any_eq_false]
        intro b hb
        obtain ⟨_,_,rfl⟩:=List.mem_map.mp hb
        simp
      rw [e0]
      exact abb (brF (hN2 _ ⟨_,_,_,rfl⟩))
  obtain ⟨a2,a3,a4,a5,rfl⟩:=hs
  exact h
end
section
variable {P:Program} {w:World} {K:PySem.W.Frag} {mg:Str->Option Value} {base:Heap} {a:Nat->Addr} {d:Nat->FuncData}
abbrev ac1:List Str:=["layer","rows","size","fault","row","value"]
theorem aa4:FnScope ac1 ["layer","rows","size"] (defScope aaN):=⟨rfl,rfl,rfl,by decide +kernel,rfl,by decide +kernel,by decide +kernel⟩
theorem afc (T:Tx P K mg base a d):FnG P w K mg base 6 (a aaO) (d aaO) ["layer","rows","size"] (sp3 fun ly x sz Q _=>∃ (n:Nat) (e:Nat->Nat->D) (f:Nat->Nat->Rat),x=tabX n e/\TabOk n e f/\(sz=.non\/sz=.int n)/\Q (.own (.lst ((List.range n).map fun i=>rowX n fun j=>rD (f i j))))):=by
  have G_first_fault:FnG P w K mg base 5 (a abc) (d abc) ["rows"] (sp1 fun x Q _=>∃ (n:Nat) (e:Nat->Nat->D) (f:Nat->Nat->Rat),x=tabX n e/\TabOk n e f/\Q (.d .non)):=agg T
  have G_is_square:FnG P w K mg base 1 (a abQ) (d abQ) ["value"] (sp1 fun x Q _=>∃ (n:Nat) (e:Nat->Nat->D),x=tabX n e/\1<=n/\n<=9/\Q (.d (.bl true))):=ahG T
  have G_ratio_of:FnG P w K mg base 3 (a abE) (d abE) ["value"] (sp1 fun x Q E=>pRof K x Q E):=afK T
  refine akZ T.F_checked_table aa4 (fun cdv A outer s H E hr hg=>(aah (acT (DW.dt (afW (acQ (acs (aaf G_is_square (hr.mono (by decide)) hg (tkOf rfl rfl rfl rfl) (ahf T) (by rfl) T.m_is_square T.F_is_square.kp (aaa (aac (pv 1)) aab)))) (ae4 (DW.dt (ajc (aaU op_notN agM (aad (pv 2)) aeG (nomark _)) (aiA (aaU (aey hr.units) ahp (aaj call_len aaR (by rfl) T.n_len PySem.boot_len (aaa (aad (pv 1)) aab)) (aad (pv 2)) (nomark _)))))))) (aai (acG rfl (tkOf rfl rfl rfl rfl) T.x_InvalidTable (hr.mono (by decide)) (by rfl) T.m_InvalidTable (aaa (aac (pv 0)) aab))) abD)
      (aah (abu (i:=3) aa4.nd rfl (Or.inl rfl) (aaf G_first_fault (hr.mono (by decide)) hg (tkOf rfl rfl rfl rfl) (afZ T) (by rfl) T.m_first_fault T.F_first_fault.kp (aaa (aac (pv 1)) aab)))
      (aah (acT (aaU op_notN agM (aad (pv 3)) aeG (nomark _)) (aai (acG rfl (tkOf rfl rfl rfl rfl) T.x_InvalidWay (hr.mono (by decide)) (by rfl) T.m_InvalidWay (aaa (aac (pv 0)) (aaa (aan ix_seq aag (aad (pv 3)) aae (fun _ _=>rfl)) (aaa (aan ix_seq aag (aad (pv 3)) aae (fun _ _=>rfl)) aab))))) abD)
      (aai (aao (acU (own:=[("row",4)]) rfl aa4.nd (abX (aac (pv 1))) (blkOk_by (own:=[("row",4)]) (N:=ac1) (sc:=(defScope aaN)) (by decide +kernel)) (fun _ _ _ _ _=>(aam (i:=4) aa4.nd rfl (Or.inl rfl))) (fun _ _ _ _ _=>aaJ) (fun _ _ _ _ _=>(acU (own:=[("value",5)]) rfl aa4.nd (abX (aac (pv 4))) (blkOk_by (own:=[("value",5)]) (N:=ac1) (sc:=_) (by kernel_rfl)) (fun _ _ _ _ _=>(aam (i:=5) aa4.nd rfl (Or.inl rfl))) (fun _ _ _ _ _=>aaJ) (fun _ _ _ _ _=>(aaf G_ratio_of (hr.mono (by decide)) hg ac4 (acj T) (by rfl) T.m_ratio_of T.F_ratio_of.kp (aaa (aac (pv 5)) aab)))))))))))) (fun ly x sz Q E h=>?_)
  replace h:∃ (n:Nat) (e:Nat->Nat->D) (f:Nat->Nat->Rat),x=tabX n e/\TabOk n e f/\(sz=.non\/sz=.int n)/\Q (.own (.lst ((List.range n).map fun i=>rowX n fun j=>rD (f i j)))):=h
  obtain ⟨n,e,f,rfl,tk,hs,h⟩:=h
  have hz:szl=16777216:=rfl
  have l9:=tk.l9
  refine aa1 (fun s=>s=[some (.d ly),some (.d (tabX n e)),some (.d sz),none,none,none]) (fun N hN=>?_) (fun s hs=>?_)
  · refine ⟨rfl,rfl,_,rfl,n,e,rfl,tk.l1,tk.l9,?_⟩
    refine abb (brF ?_)
    rcases hs with rfl | rfl
    · refine akM rfl rfl ?_
      exact brF (brF (hN _ rfl))
    · refine akM rfl rfl ?_
      refine brT ?_
      refine aed ?_
      refine acC ?_
      rw [decide_eq_true rfl]
      exact brF (hN _ rfl)
  subst hs
  refine aeQ .non (fun Q hQ=>⟨rfl,rfl,_,rfl,n,e,f,rfl,tk,hQ⟩) ?_
  refine aa1 (fun s=>s=[some (.d ly),some (.d (tabX n e)),some (.d sz),some (.d .non),none,none]) (fun N hN=>?_) (fun s hs=>?_)
  · refine akM rfl rfl ?_
    exact brF (hN _ rfl)
  subst hs
  refine abm ?_
  refine adb (fun d=>match itemsD d with | some es=>.lst (es.map rOfD) | none=>d) _ (by rw [List.length_map,List.length_range];omega) (fun d hd M A m=>?_) ?_
  · obtain ⟨i,hi,rfl⟩:=List.mem_map.mp hd
    have hi:=List.mem_range.mp hi
    refine brT ?_
    refine abm ?_
    refine adb rOfD _ (by rw [List.length_map,List.length_range];omega) (fun d hd M' A' m'=>?_) m
    obtain ⟨j,hj,rfl⟩:=List.mem_map.mp hd
    have hj:=List.mem_range.mp hj
    refine brT ?_
    refine ⟨rfl,rfl,_,rfl,(tk.pl i j hi hj).kind,(tk.pl i j hi hj).pair,(fun q z=>?_),(fun z=>by rw [tk.rt i j hi hj] at z;cases z)⟩
    have e1:rOfD (e i j)=rD q:=by unfold rOfD;rw [z]
    rw [e1] at m'
    exact m'
  · have e1:(((List.range n).map fun i=>rowX n (e i)).map fun d=>match itemsD d with | some es=>D.lst (es.map rOfD) | none=>d)=(List.range n).map fun i=>rowX n fun j=>rD (f i j):=by
      rw [List.map_map]
      refine List.map_congr_left fun i hi=>?_
      have hi:=List.mem_range.mp hi
      show D.lst (((List.range n).map (e i)).map rOfD)=D.lst _
      rw [List.map_map]
      congr 1
      refine List.map_congr_left fun j hj=>?_
      have hj:=List.mem_range.mp hj
      show rOfD (e i j)=rD (f i j)
      unfold rOfD;rw [tk.rt i j hi hj]
    rw [e1]
    exact h
structure NmOk (n:Nat) (ks:List Str) (pl:Str->Nat):Prop where
  nd:ks.Nodup
  l5:ks.length<=5
  nm:∀ z∈ks,nameOk z=true
  lt:∀ z∈ks,pl z < n
  inj:∀ z∈ks,∀ y∈ks,pl z=pl y->z=y
theorem agU {z:Str} (h:nameOk z=true):z.length<=5:=by
  unfold nameOk at h
  simp only [Bool.and_eq_true,decide_eq_true_eq] at h
  exact h.1.2
abbrev NmDo (K:PySem.W.Frag) (n:Nat) (ks:List Str) (val:Str->D) (Q:List Str->Prop) (E:XE'):Prop:=ks.Nodup/\ks.length<=60/\(∀ z∈ks,kindD (val z)=true/\z.length<=szl)/\∀ ys:List Str,ys.Perm ks->sortedS ys=true->(∀ z,ys.find? (fun z=>!nameOk z)=some z->E (.ref (He.ga K "InvalidName")) (ac8 (.str z)))/\(ys.find? (fun z=>!nameOk z)=none->(5 < ks.length->E (.ref (He.ga K "TooMany")) (aeP (.str "names") (.int 5)))/\(ks.length<=5->(∀ d,plF val n [] ys=some d->E (.ref (He.ga K "InvalidPlace")) (abJ d))/\(plF val n [] ys=none->Q ys)))
theorem afP {K:PySem.W.Frag} {n:Nat} {ks:List Str} {pl:Str->Nat} {Q:List Str->Prop} {E:XE'} (ok:NmOk n ks pl) (h:∀ ys:List Str,ys.Perm ks->sortedS ys=true->Q ys):NmDo K n ks (fun z=>.int (pl z)) Q E:=by
  have hz:szl=16777216:=rfl
  have l5:=ok.l5
  refine ⟨ok.nd,by omega,fun z hz=>⟨rfl,by have:=agU (ok.nm z hz);omega⟩,fun ys hp hs=>⟨fun z hf=>?_,fun _=>⟨fun c=>absurd c (by omega),fun _=>⟨fun d hd=>?_,fun _=>h ys hp hs⟩⟩⟩⟩
  · have h1:=List.find?_some hf
    rw [ok.nm z (hp.mem_iff.mp (List.mem_of_find?_eq_some hf))] at h1
    cases h1
  · have e:plF (fun z=>.int (pl z)) n [] ys=none:=aiV ys [] (hp.nodup_iff.mpr ok.nd) (fun z hz=>ok.lt z (hp.mem_iff.mp hz)) (fun z hz y hy=>ok.inj z (hp.mem_iff.mp hz) y (hp.mem_iff.mp hy))
    rw [e] at hd;cases hd
abbrev adv:List Str:=["names","size","name","found","other"]
theorem aa0:FnScope adv ["names","size"] (defScope aaG):=⟨rfl,rfl,rfl,by decide +kernel,rfl,by decide +kernel,by decide +kernel⟩
theorem aeT (T:Tx P K mg base a d):FnG P w K mg base 4 (a aaH) (d aaH) ["names","size"] (sp2 fun x y Q E=>∃ (n:Nat) (ks:List Str) (val:Str->D),x=.dk (kvD ks val)/\y=.int n/\NmDo K n ks val (fun ys=>Q (.d (.dk (kvD ys val)))) E):=by
  have G_is_name:FnG P w K mg base 1 (a acP) (d acP) ["value"] (sp1 fun x Q _=>kindD x=true/\(∀ z,x=.str z->z.length<=szl)/\Q (.d (.bl (nameB x)))):=ajw T
  have G_is_number:FnG P w K mg base 2 (a abj) (d abj) ["value","least","most"] (sp3 fun x lo hi Q _=>kindD x=true/\∃ l m:Int,lo=.int l/\hi=.int m/\Q (.d (.bl (numD l m x)))):=ae2 T
  refine adi T.F_checked_places aa0 (fun cdv A outer s H E hr hg=>(aah (adO (passes_of rfl) rfl (abX (aaj (call_sortedD rfl) afD (by rfl) T.n_sorted (by decide +kernel) (aaa (aad (pv 0)) aab))) (aam (i:=2) aa0.nd rfl (Or.inl rfl)) (aai (acT (acQ (acs (aaf G_is_name (hr.mono (by decide)) hg (tkOf rfl rfl rfl rfl) (aiE T) (by rfl) T.m_is_name T.F_is_name.kp (aaa (aac (pv 2)) aab)))) (aai (acG rfl (tkOf rfl rfl rfl rfl) T.x_InvalidName (hr.mono (by decide)) (by rfl) T.m_InvalidName (aaa (aac (pv 2)) aab))) abD)))
      (aah (acT (aaU op_gt (aaT fun _ _ _=>.bl _) (aaj ajL ajZ (by rfl) T.n_len PySem.boot_len (aaa (aad (pv 0)) aab)) (adZ (by rfl) T.c_MOST_NAMED) (nomark _)) (aai (acG rfl (tkOf rfl rfl rfl rfl) T.x_TooMany (hr.mono (by decide)) (by rfl) T.m_TooMany (aaa ac7 (aaa (adZ (by rfl) T.c_MOST_NAMED) aab)))) abD)
      (aah (abu (i:=3) aa0.nd rfl (Or.inr rfl) anQ)
      (aah (adO (passes_of rfl) rfl (abX (aaj (call_sortedD rfl) afD (by rfl) T.n_sorted (by decide +kernel) (aaa (aad (pv 0)) aab))) (aam (i:=2) aa0.nd rfl (Or.inl rfl)) (aah (acT (DW.dt (afW (acQ (acs (aaf G_is_number (hr.mono (by decide)) hg (tkOf rfl rfl rfl rfl) (aeL T) (by rfl) T.m_is_number T.F_is_number.kp (aaa (adQ hr.units (aad (pv 0)) (aac (pv 2))) (aaa aae (aaa (amz (aac (pv 1)) aae) aab)))))) (ae4 (aaU adn afE (adQ hr.units (aad (pv 0)) (aac (pv 2))) (anR (i:=3) (acU (own:=[("other",4)]) rfl aa0.nd (ak8 (aac (pv 3))) (blkOk_by (own:=[("other",4)]) (N:=adv) (sc:=(defScope aaG)) (by decide +kernel)) (fun _ _ _ _ _=>(aam (i:=4) aa0.nd rfl (Or.inl rfl))) (fun _ _ _ _ _=>aaJ) (fun _ _ _ _ _=>(adQ hr.units (aad (pv 3)) (aac (pv 4)))))) (by rfl))))) (aai (acG rfl (tkOf rfl rfl rfl rfl) T.x_InvalidPlace (hr.mono (by decide)) (by rfl) T.m_InvalidPlace (aaa (adQ hr.units (aad (pv 0)) (aac (pv 2))) aab))) abD)
      (aai (anK hr.units (pv 3) (aac (pv 2)) (adQ hr.units (aad (pv 0)) (aac (pv 2)))))))
      (aai (anI (pv 3)))))))) (fun x y Q E h=>?_)
  replace h:∃ (n:Nat) (ks:List Str) (val:Str->D),x=.dk (kvD ks val)/\y=.int n/\NmDo K n ks val (fun ys=>Q (.d (.dk (kvD ys val)))) E:=h
  obtain ⟨n,ks,val,rfl,rfl,nd,l60,hk,h⟩:=h
  have hz:szl=16777216:=rfl
  refine aa1 (fun s=>∃ a2 ys,ys.Perm ks/\sortedS ys=true/\ys.find? (fun z=>!nameOk z)=none/\s=[some (.d (.dk (kvD ks val))),some (.d (.int n)),a2,none,none]) (fun N hN=>?_) (fun s hs=>?_)
  · refine air rfl (ag2 ks val) (by omega) (fun ys hp hso=>?_)
    refine abm ?_
    refine adX (fun r s=>∃ (dn rest:List Str) (a2:Option DV),ys=dn++rest/\(∀ z∈dn,nameOk z=true)/\r=rest.map .str/\s=[some (.d (.dk (kvD ks val))),some (.d (.int n)),a2,none,none]) (fun N1 d r s hN1 hs=>?_) (fun s hs=>?_) _ _ ⟨[],ys,_,rfl,(fun z h=>by cases h),rfl,rfl⟩
    · obtain ⟨dn,rest,a2,e1,hd,e2,rfl⟩:=hs
      cases rest with
      | nil=>cases e2
      | cons z rest=>
        rw [List.map_cons] at e2
        cases e2
        have mz:z∈ks:=hp.mem_iff.mp (by rw [e1];simp)
        refine ⟨rfl,rfl,_,rfl,rfl,(fun y e=>by cases e;exact (hk z mz).2),?_⟩
        cases en:nameOk z with
        | true=>
          have e3:nameB (.str z)=true:=en
          rw [e3]
          refine abb (brF (hN1 _ ⟨dn++[z],rest,_,by rw [e1];simp,fun y hy=>?_,rfl,rfl⟩))
          rcases List.mem_append.mp hy with hy | hy
          · exact hd y hy
          · rw [List.mem_singleton.mp hy];exact en
        | false=>
          have e3:nameB (.str z)=false:=en
          rw [e3]
          refine abb (brT ⟨rfl,af8 ((h ys hp hso).1 z ?_)⟩)
          rw [e1,List.find?_append,List.find?_eq_none.mpr (fun y hy=>by rw [hd y hy];simp)]
          show (List.find? (fun z=>!nameOk z) (z::rest))=some z
          rw [List.find?_cons_of_pos (by rw [en];rfl)]
    · obtain ⟨dn,rest,a2,e1,hd,e2,rfl⟩:=hs
      have:rest=[]:=by
        cases rest with
        | nil=>rfl
        | cons _ _=>cases e2
      subst this
      rw [List.append_nil] at e1
      subst e1
      exact hN _ ⟨_,_,hp,hso,List.find?_eq_none.mpr (fun y hy=>by rw [hd y hy];simp),rfl⟩
  obtain ⟨a2,ys,hp,hso,hno,rfl⟩:=hs
  have h2:=(h ys hp hso).2 hno
  refine aa1 (fun s=>ks.length<=5/\s=[some (.d (.dk (kvD ks val))),some (.d (.int n)),a2,none,none]) (fun N hN=>?_) (fun s hs=>?_)
  · refine ang rfl ?_
    rw [ais]
    refine acO ?_
    refine br (fun q=>?_) (fun q=>?_)
    · exact ⟨rfl,ajo (h2.1 (by have:=of_decide_eq_true q;omega))⟩
    · exact hN _ ⟨by have:=of_decide_eq_false q;omega,rfl⟩
  obtain ⟨l5,rfl⟩:=hs
  obtain ⟨h3,h4⟩:=h2.2 l5
  refine aa1 (fun s=>s=[some (.d (.dk (kvD ks val))),some (.d (.int n)),a2,some (.own (.dk [])),none]) (fun N hN=>hN _ rfl) (fun s hs=>?_)
  subst hs
  have vz:∀ z∈ks,valD (kvD ks val) (.inr z)=some (val z):=fun z hz=>by rw [aeV,if_pos hz]
  refine aa1 (fun s=>plF val n [] ys=none/\∃ a2:Option DV,s=[some (.d (.dk (kvD ks val))),some (.d (.int n)),a2,some (.own (.dk (kvD ys val))),none]) (fun N hN=>?_) (fun s hs=>?_)
  · refine air rfl (ag2 ks val) (by omega) (fun ys' hp' hso'=>?_)
    have ey:ys'=ys:=aet hso' hso (hp'.trans hp.symm)
    subst ey
    refine abm ?_
    have yl:ys'.length=ks.length:=hp.length_eq
    have ynd:ys'.Nodup:=hp.nodup_iff.mpr nd
    refine adX (fun r s=>∃ (dn rest:List Str) (a2:Option DV),ys'=dn++rest/\plF val n [] ys'=plF val n (dn.map val) rest/\(∀ z∈dn,flatD (val z)=true)/\r=rest.map .str/\s=[some (.d (.dk (kvD ks val))),some (.d (.int n)),a2,some (.own (.dk (kvD dn val))),none]) (fun N1 d r s hN1 hs=>?_) (fun s hs=>?_) _ _ ⟨[],ys',_,rfl,rfl,(fun z h=>by cases h),rfl,rfl⟩
    · obtain ⟨dn,rest,a2,e1,ep,fl,e2,rfl⟩:=hs
      cases rest with
      | nil=>cases e2
      | cons z rest=>
        rw [List.map_cons] at e2
        cases e2
        have mz:z∈ks:=hp.mem_iff.mp (by rw [e1];simp)
        have nz:z∉dn:=fun m=>by
          rw [e1] at ynd
          exact (List.nodup_append.mp ynd).2.2 z m z (List.mem_cons_self ..) rfl
        have ld:dn.length<=5:=by
          have:=congrArg List.length e1
          rw [List.length_append,List.length_cons] at this
          omega
        refine aa1 (fun s=>numD 0 ((n:Int) - 1) (val z)=true/\inF (val z) (dn.map val)=false/\s=[some (.d (.dk (kvD ks val))),some (.d (.int n)),some (.d (.str z)),some (.own (.dk (kvD dn val))),none]) (fun N2 hN2=>?_) (fun s hs=>?_)
        · refine aeC rfl rfl (vz z mz) ?_
          refine acO ?_
          refine ⟨rfl,rfl,_,_,_,rfl,(hk z mz).1,0,(n:Int) - 1,rfl,rfl,?_⟩
          cases e3:numD 0 ((n:Int) - 1) (val z) with
          | false=>
            refine abb (brT (brT ?_))
            refine aeC rfl rfl (vz z mz) ?_
            exact ⟨rfl,ack (h3 _ (by rw [ep,aki (.inl e3)]))⟩
          | true=>
            have fz:flatD (val z)=true:=by
              cases ev:val z with
              | int i=>rfl
              | _=>rw [ev] at e3;cases e3
            refine abb (brF ?_)
            refine aeC rfl rfl (vz z mz) ?_
            refine ⟨kvD dn val,rfl,?_⟩
            refine ani ?_
            refine adb (fun d=>match d with | .str y=>val y | _=>.non) _ (by rw [List.length_map,ais];omega) (fun d hd M A m=>?_) ?_
            · obtain ⟨kv,hk,rfl⟩:=List.mem_map.mp hd
              obtain ⟨y,hy,rfl⟩:=List.mem_map.mp hk
              refine brT ?_
              exact aeC rfl rfl (show valD (kvD dn val) (.inr y)=some (val y) by rw [aeV,if_pos hy]) m
            · refine ⟨rfl,trivial,?_⟩
              have e4:(((kvD dn val).map fun kv=>keyD kv.1).map fun d=>match d with | .str y=>val y | _=>.non)=dn.map val:=by
                unfold kvD
                rw [List.map_map,List.map_map];rfl
              rw [e4]
              refine anm (ds:=dn.map val) rfl fz (by rw [List.all_map];exact List.all_eq_true.mpr fun y hy=>fl y hy) ?_
              cases e5:inF (val z) (dn.map val) with
              | false=>exact brF (hN2 _ ⟨e3,e5,rfl⟩)
              | true=>
                refine brT ?_
                refine aeC rfl rfl (vz z mz) ?_
                exact ⟨rfl,ack (h3 _ (by rw [ep,aki (.inr e5)]))⟩
        obtain ⟨e3,e5,rfl⟩:=hs
        have fz:flatD (val z)=true:=by
          cases ev:val z with
          | int i=>rfl
          | _=>rw [ev] at e3;cases e3
        refine aeC rfl rfl (vz z mz) ?_
        refine ⟨⟨_,rfl⟩,by rw [ais];omega,hN1 _ ⟨dn++[z],rest,some (.d (.str z)),by rw [e1];simp,?_,(fun y hy=>?_),rfl,?_⟩⟩
        · rw [ep,akh e3 e5,List.map_append];rfl
        · rcases List.mem_append.mp hy with hy | hy
          · exact fl y hy
          · rw [List.mem_singleton.mp hy];exact fz
        rw [afI (show valD (kvD dn val) (.inr z)=none by rw [aeV,if_neg nz])]
        rw [anr];rfl
    · obtain ⟨dn,rest,a2,e1,ep,fl,e2,rfl⟩:=hs
      have:rest=[]:=by
        cases rest with
        | nil=>rfl
        | cons _ _=>cases e2
      subst this
      rw [List.append_nil] at e1
      subst e1
      exact hN _ ⟨ep,_,rfl⟩
  obtain ⟨ep,a2,rfl⟩:=hs
  exact ⟨_,rfl,h4 ep⟩
abbrev wld (K:PySem.W.Frag) (tabs:List D) (nm:List (Key × D)):D:=.ins (He.ga K "World") [("own_tables",.lst tabs),("own_names",.dk nm)]
abbrev tabL (n:Nat) (f:Nat->Nat->Rat):D:=.lst ((List.range n).map fun i=>rowX n fun j=>rD (f i j))
abbrev afe:List Str:=["self","names","foot","cart","tables"]
theorem adg:FnScope afe ["self","names","foot","cart"] (defScope aaS):=⟨rfl,rfl,rfl,by decide +kernel,rfl,by decide +kernel,by decide +kernel⟩
theorem acA (T:Tx P K mg base a d):FnR P w K mg base 7 (a aal) (d aal) ["self","names","foot","cart"] (upIn K (He.ga K "World") fun args Q E=>∃ nm:D,∃ ft:D,∃ ct:D,args=[.d nm,.d ft,.d ct]/\(∃ (n:Nat) (e:Nat->Nat->D) (f:Nat->Nat->Rat) (ks:List Str) (val:Str->D) (fs:List (Nat->Nat->Rat)),nm=.dk (kvD ks val)/\ft=tabX n e/\TabOk n e f/\((ct=.non/\fs=[])\/∃ (e':Nat->Nat->D) (f':Nat->Nat->Rat),ct=tabX n e'/\TabOk n e' f'/\fs=[f'])/\NmDo K n ks val (fun ys=>Q [("own_tables",.lst (tabL n f::fs.map (tabL n))),("own_names",.dk (kvD ys val))]) E)):=by
  have G_checked_places:FnG P w K mg base 4 (a aaH) (d aaH) ["names","size"] (sp2 fun x y Q E=>∃ (n:Nat) (ks:List Str) (val:Str->D),x=.dk (kvD ks val)/\y=.int n/\NmDo K n ks val (fun ys=>Q (.d (.dk (kvD ys val)))) E):=aeT T
  have G_checked_table:FnG P w K mg base 6 (a aaO) (d aaO) ["layer","rows","size"] (sp3 fun ly x sz Q _=>∃ (n:Nat) (e:Nat->Nat->D) (f:Nat->Nat->Rat),x=tabX n e/\TabOk n e f/\(sz=.non\/sz=.int n)/\Q (.own (.lst ((List.range n).map fun i=>rowX n fun j=>rD (f i j))))):=afc T
  refine anE T.F_World___init__ adg (by rintro _ Q E ⟨nm,ft,ct,rfl,h⟩;rfl) (by rintro _ Q E ⟨nm,ft,ct,rfl,h⟩ x hx;simp only [List.mem_cons,List.not_mem_nil,or_false] at hx;rcases hx with rfl | rfl | rfl<;>first | exact .inl ⟨_,rfl⟩ | assumption) (fun cdv A outer s H E hr hg=>(aah (abu (i:=4) adg.nd rfl (Or.inl rfl) (adP (aaa (aaf G_checked_table (hr.mono (by decide)) hg (tkOf rfl rfl rfl rfl) (adk T) (by rfl) T.m_checked_table T.F_checked_table.kp (aaa ac7 (aaa (aac (pv 2)) (aaa aeG aab)))) aab)))
      (aah (acT (aaU op_notN agM (aad (pv 3)) aeG (nomark _)) (aai (ak5 (pv 4) (aaf G_checked_table (hr.mono (by decide)) hg (tkOf rfl rfl rfl rfl) (adk T) (by rfl) T.m_checked_table T.F_checked_table.kp (aaa ac7 (aaa (aac (pv 3)) (aaa (aaj call_len aaR (by rfl) T.n_len PySem.boot_len (aaa (aad (pv 2)) aab)) aab)))))) abD)
      (aah (amu (K:=K) (pv 0) (aac (pv 4)))
      (aai (amu (K:=K) (pv 0) (aaf G_checked_places (hr.mono (by decide)) hg (tkOf rfl rfl rfl rfl) (aeM T) (by rfl) T.m_checked_places T.F_checked_places.kp (aaa (aac (pv 1)) (aaa (aaj call_len aaR (by rfl) T.n_len PySem.boot_len (aaa (aad (pv 2)) aab)) aab))))))))) (fun args Q E xx h=>?_)
  obtain ⟨nm,ft,ct,rfl,h⟩:=h
  obtain ⟨n,e,f,ks,val,fs,rfl,rfl,tk,h,nk⟩:=h
  have hz:szl=16777216:=rfl
  refine aev [tabL n f] (fun Q hQ=>?_) ?_
  · refine ⟨rfl,rfl,_,_,_,rfl,n,e,f,rfl,tk,.inl rfl,?_⟩
    exact afS rfl rfl hQ
  refine aa1 (fun s=>s=[some (.own (.ins xx (He.ga K "World") [])),some (.d (.dk (kvD ks val))),some (.d (tabX n e)),some (.d ct),some (.own (.lst (tabL n f::fs.map (tabL n))))]) (fun N hN=>?_) (fun s hs=>?_)
  · rcases h with ⟨rfl,rfl⟩ | ⟨e',f',rfl,tk',rfl⟩
    · refine akM rfl rfl ?_
      exact brF (hN _ rfl)
    · refine akM rfl rfl ?_
      refine brT ?_
      refine ⟨⟨_,rfl⟩,?_⟩
      refine aed ?_
      refine ⟨rfl,rfl,_,_,_,rfl,n,e',f',rfl,tk',.inr rfl,?_⟩
      exact ⟨by show 1 < szl;omega,hN _ rfl⟩
  subst hs
  refine anF (fs:=[]) (s':=[some (.own (.ins xx (He.ga K "World") [])),some (.d (.dk (kvD ks val))),some (.d (tabX n e)),some (.d ct),some (.d (.lst (tabL n f::fs.map (tabL n))))]) (.lst (tabL n f::fs.map (tabL n))) T.cl_World T.na_World_own_tables (fun Q hQ=>hQ _ rfl) ?_
  refine aed ?_
  obtain ⟨nd,l60,hk,nh⟩:=nk
  refine ⟨rfl,rfl,_,_,rfl,n,ks,val,rfl,rfl,nd,l60,hk,fun ys hp hso=>?_⟩
  obtain ⟨h1,h2⟩:=nh ys hp hso
  refine ⟨h1,fun hno=>⟨(h2 hno).1,fun l5=>⟨((h2 hno).2 l5).1,fun hno2=>?_⟩⟩⟩
  exact ⟨T.cl_World,T.na_World_own_names,by show 1 < 1000;decide,_,rfl,((h2 hno).2 l5).2 hno2⟩
theorem ahy {α:Type} (F:Nat->α) (m:Nat):(List.range (m + 1)).map F=F 0::(List.range m).map fun k=>F (k + 1):=by
  rw [List.range_succ_eq_map,List.map_cons,List.map_map];rfl
abbrev tabsF (n m:Nat) (F:Nat->Nat->Nat->Rat):List D:=(List.range (m + 1)).map fun k=>tabL n (F k)
theorem acY (n m:Nat) (F:Nat->Nat->Nat->Rat):tabsF n m F=tabL n (F 0)::((List.range m).map fun k=>F (k + 1)).map (tabL n):=by
  unfold tabsF
  rw [ahy,List.map_map];rfl
theorem aok {q:Rat} (h:Nb 800 q):q.num.natAbs < 10 ^ 267/\q.den < 10 ^ 267:=by
  have e:(2:Nat) ^ 800<=10 ^ 267:=by
    refine Nat.le_trans (Nat.pow_le_pow_right (by decide) (by decide:800<=3 * 267)) ?_
    rw [Nat.pow_mul]
    exact Nat.pow_le_pow_left (by decide) _
  exact ⟨Nat.lt_of_lt_of_le h.n e,Nat.lt_of_lt_of_le h.d e⟩
theorem an2 {n:Nat} {f:Nat->Rat} (n9:n<=9) (h:∀ j,j < n->Nb 800 (f j)):Sm 267 2 5000 (rowX n fun j=>rD (f j)):=
  (aeu (afC (m:=9) (fun x hx=>by
    obtain ⟨j,hj,rfl⟩:=List.mem_map.mp hx
    have e:=aok (h j (List.mem_range.mp hj))
    exact an3 e.1 e.2) (by rw [List.length_map,List.length_range];exact n9))).mono (by decide) (by decide)
theorem amK {n:Nat} {f:Nat->Nat->Rat} (n9:n<=9) (h:∀ i j,i < n->j < n->Nb 800 (f i j)):Sm 267 3 50000 (tabL n f):=
  (aeu (afC (m:=9) (fun x hx=>by
    obtain ⟨i,hi,rfl⟩:=List.mem_map.mp hx
    exact an2 n9 fun j hj=>h i j (List.mem_range.mp hi) hj) (by rw [List.length_map,List.length_range];exact n9))).mono (by decide) (by decide)
theorem aiK {n m:Nat} {F:Nat->Nat->Nat->Rat} (n9:n<=9) (m1:m<=1) (h:∀ k i j,k<=m->i < n->j < n->Nb 800 (F k i j)):Sms 267 3 (2 * 50002) (tabsF n m F):=
  afC (m:=2) (fun x hx=>by
    obtain ⟨k,hk,rfl⟩:=List.mem_map.mp hx
    have:=List.mem_range.mp hk
    exact amK n9 fun i j hi hj=>h k i j (by omega) hi hj) (by rw [List.length_map,List.length_range];omega)
abbrev planF (n m:Nat) (ks:List Str) (pl:Str->Nat) (F:Nat->Nat->Nat->Rat):D:=.tup [.lst (ks.map fun s=>.tup [.str s,.int (pl s)]),.lst (tabsF n m F)]
theorem aoG {m:Nat} {fs:List (Nat->Nat->Rat)} (h:fs.length=m):∃ F:Nat->Nat->Nat->Rat,fs=(List.range m).map F:=by
  refine ⟨fun k=>fs.getD k (fun _ _=>0),?_⟩
  apply List.ext_getElem
  · simp [h]
  · intro i h1 h2
    simp [List.getD_eq_getElem?_getD,h1]
end
section
variable {P:Program} {w:World} {K:PySem.W.Frag} {mg:Str->Option Value} {base:Heap} {a:Nat->Addr} {d:Nat->FuncData}
abbrev ahS:List Str:=["self"]
theorem agO:FnScope ahS ["self"] (defScope abO):=⟨rfl,rfl,rfl,by decide +kernel,rfl,by decide +kernel,by decide +kernel⟩
theorem aez (T:Tx P K mg base a d):FnG P w K mg base 1 (a aaZ) (d aaZ) ["self"] (sp1 fun me Q _=>∃ (n:Nat) (f:Nat->Nat->Rat) (tabs:List D) (nm:List (Key × D)),me=wld K (tabL n f::tabs) nm/\Q (.d (.int n))):=by
  refine ac6 T.F_World_size agO (fun cdv A outer s H E hr hg=>(aai (aao (aaj call_len aaR (by rfl) T.n_len PySem.boot_len (aaa (aan ix_seq aag (aec (K:=K) (aad (pv 0))) aae (fun _ _=>rfl)) aab))))) (fun me Q E h=>?_)
  replace h:∃ (n:Nat) (f:Nat->Nat->Rat) (tabs:List D) (nm:List (Key × D)),me=wld K (tabL n f::tabs) nm/\Q (.d (.int n)):=h
  obtain ⟨n,f,tabs,nm,rfl,h⟩:=h
  refine agp T.cl_World T.na_World_own_tables rfl ?_
  refine acB rfl ahd ?_
  refine abk (ds:=(List.range n).map fun i=>rowX n fun j=>rD (f i j)) rfl ?_
  rw [List.length_map,List.length_range];exact h
abbrev ago:List Str:=["self"]
theorem afG:FnScope ago ["self"] (defScope abi):=⟨rfl,rfl,rfl,by decide +kernel,rfl,by decide +kernel,by decide +kernel⟩
theorem adI (T:Tx P K mg base a d):FnG P w K mg base 1 (a aaA) (d aaA) ["self"] (sp1 fun me Q _=>∃ (tabs:List D) (nm:List (Key × D)),me=wld K tabs nm/\Q (.d (.int tabs.length))):=by
  refine ac6 T.F_World_layers afG (fun cdv A outer s H E hr hg=>(aai (aao (aaj call_len aaR (by rfl) T.n_len PySem.boot_len (aaa (aec (K:=K) (aad (pv 0))) aab))))) (fun me Q E h=>?_)
  replace h:∃ (tabs:List D) (nm:List (Key × D)),me=wld K tabs nm/\Q (.d (.int tabs.length)):=h
  obtain ⟨tabs,nm,rfl,h⟩:=h
  refine agp T.cl_World T.na_World_own_tables rfl ?_
  exact abk rfl h
abbrev agZ:List Str:=["self"]
theorem agf:FnScope agZ ["self"] (defScope abB):=⟨rfl,rfl,rfl,by decide +kernel,rfl,by decide +kernel,by decide +kernel⟩
theorem agn (T:Tx P K mg base a d):FnG P w K mg base 1 (a abh) (d abh) ["self"] (sp1 fun me Q _=>∃ (tabs:List D) (ks:List Str) (val:Str->D),me=wld K tabs (kvD ks val)/\ks.length < 64/\∀ ys:List Str,ys.Perm ks->sortedS ys=true->Q (.own (.lst (ys.map .str)))):=by
  refine ac6 T.F_World_names agf (fun cdv A outer s H E hr hg=>(aai (aao (aaj (call_sortedD rfl) afD (by rfl) T.n_sorted (by decide +kernel) (aaa (aec (K:=K) (aad (pv 0))) aab))))) (fun me Q E h=>?_)
  replace h:∃ (tabs:List D) (ks:List Str) (val:Str->D),me=wld K tabs (kvD ks val)/\ks.length < 64/\∀ ys:List Str,ys.Perm ks->sortedS ys=true->Q (.own (.lst (ys.map .str))):=h
  obtain ⟨tabs,ks,val,rfl,hl,h⟩:=h
  refine agp T.cl_World T.na_World_own_names rfl ?_
  exact air rfl (ag2 ks val) hl (fun ys hp hs=>h ys hp hs)
def hasB (nm:List (Key × D)):D->Bool
  | .str z=>(valD nm (.inr z)).isSome
  | _=>false
abbrev ad5:List Str:=["self","name"]
theorem adE:FnScope ad5 ["self","name"] (defScope aau):=⟨rfl,rfl,rfl,by decide +kernel,rfl,by decide +kernel,by decide +kernel⟩
theorem adJ (T:Tx P K mg base a d):FnG P w K mg base 1 (a aap) (d aap) ["self","name"] (sp2 fun me x Q _=>∃ (tabs:List D) (nm:List (Key × D)),me=wld K tabs nm/\kindD x=true/\Q (.d (.bl (hasB nm x)))):=by
  refine adi T.F_World___contains__ adE (fun cdv A outer s H E hr hg=>(aai (aao (agF (aaj call_isi aeR (by rfl) T.n_isinstance (by decide +kernel) (aaa (aad (pv 1)) (aaa (agq (T:="str") (by rfl) T.n_str (by decide +kernel)) aab))) (afX (aoO hr.units (aac (pv 1)) (aec (K:=K) (aad (pv 0))))))))) (fun me x Q E h=>?_)
  replace h:∃ (tabs:List D) (nm:List (Key × D)),me=wld K tabs nm/\kindD x=true/\Q (.d (.bl (hasB nm x))):=h
  obtain ⟨tabs,nm,rfl,k,h⟩:=h
  refine ajD rfl k (by decide) ?_
  cases x with
  | str z=>
    refine brT ?_
    refine agp T.cl_World T.na_World_own_names rfl ?_
    exact l_din rfl rfl h
  | ins _ _=>cases k
  | dk _=>cases k
  | dt _=>cases k
  | any=>cases k
  | raw _=>cases k
  | _=>exact brF h
abbrev agY:List Str:=["self","name"]
theorem age:FnScope agY ["self","name"] (defScope abA):=⟨rfl,rfl,rfl,by decide +kernel,rfl,by decide +kernel,by decide +kernel⟩
theorem agm (T:Tx P K mg base a d):FnG P w K mg base 3 (a abg) (d abg) ["self","name"] (sp2 fun me x Q E=>∃ (tabs:List D) (ks:List Str) (val:Str->D),me=wld K tabs (kvD ks val)/\kindD x=true/\(hasB (kvD ks val) x=false->E (.ref (He.ga K "UnknownName")) (ab3 x))/\∀ z∈ks,x=.str z->Q (.d (val z))):=by
  have G_World___contains__:FnG P w K mg base 1 (a aap) (d aap) ["self","name"] (sp2 fun me x Q _=>∃ (tabs:List D) (nm:List (Key × D)),me=wld K tabs nm/\kindD x=true/\Q (.d (.bl (hasB nm x)))):=adJ T
  refine adi T.F_World_place age (fun cdv A outer s H E hr hg=>(aah (acT (aaU (akn T.me_World___contains__ G_World___contains__ (hr.mono (by decide)) hg (adS T)) (amP (K:=K) (n:=true)) (aac (pv 1)) (aac (pv 0)) (by rfl)) (aai (acG rfl (tkOf rfl rfl rfl rfl) T.x_UnknownName (hr.mono (by decide)) (by rfl) T.m_UnknownName (aaa (aac (pv 1)) aab))) abD)
      (aai (aao (adQ hr.units (aec (K:=K) (aad (pv 0))) (aac (pv 1))))))) (fun me x Q E h=>?_)
  replace h:∃ (tabs:List D) (ks:List Str) (val:Str->D),me=wld K tabs (kvD ks val)/\kindD x=true/\(hasB (kvD ks val) x=false->E (.ref (He.ga K "UnknownName")) (ab3 x))/\∀ z∈ks,x=.str z->Q (.d (val z)):=h
  obtain ⟨tabs,ks,val,rfl,k,h0,h1⟩:=h
  refine aa1 (fun s=>hasB (kvD ks val) x=true/\s=[some (.d (wld K tabs (kvD ks val))),some (.d x)]) (fun N hN=>?_) (fun s hs=>?_)
  · refine l_inI ⟨_,_,rfl,_,_,rfl,k,?_⟩
    cases e:hasB (kvD ks val) x with
    | true=>exact brF (hN _ ⟨e,rfl⟩)
    | false=>exact brT ⟨rfl,af7 (h0 e)⟩
  obtain ⟨e,rfl⟩:=hs
  cases x with
  | str z=>
    have e1:(valD (kvD ks val) (.inr z)).isSome=true:=e
    rw [aeV] at e1
    have mz:z∈ks:=by
      by_cases m:z∈ks
      · exact m
      · rw [if_neg m] at e1;cases e1
    refine agp T.cl_World T.na_World_own_names rfl ?_
    exact aeC rfl rfl (by rw [aeV,if_pos mz]) (h1 z mz rfl)
  | _=>cases e
def layIx:D->Nat
  | .str z=>if z="foot" then 0 else 1
  | _=>0
theorem aoq {m:Nat} {x:D} (hm:m<=2) (h:layB m x=true):∃ z:Str,x=.str z/\layIx x < m/\((["foot","cart"]:List Str)[layIx x]?=some z)/\∀ k,k < layIx x->(["foot","cart"]:List Str)[k]?≠some z:=by
  cases x with
  | str z=>
    refine ⟨z,rfl,?_⟩
    have fc:("foot":Str)≠"cart":=by decide
    unfold layB inF at h
    match m,hm,h with
    | 0,_,h=>cases h
    | 1,_,h=>
      have e:("foot":Str)=z:=by
        rcases Bool.or_eq_true_iff.mp (show ((("foot":Str) == z) || false)=true from h) with q | q
        · exact eq_of_beq q
        · cases q
      subst e
      exact ⟨by decide,by decide,fun k hk=>absurd hk (by show ¬ k < 0;omega)⟩
    | 2,_,h=>
      rcases Bool.or_eq_true_iff.mp (show ((("foot":Str) == z) || ((("cart":Str) == z) || false))=true from h) with q | q
      · have e:=eq_of_beq q
        subst e
        exact ⟨by decide,by decide,fun k hk=>absurd hk (by show ¬ k < 0;omega)⟩
      · rcases Bool.or_eq_true_iff.mp q with q | q
        · have e:=eq_of_beq q
          subst e
          refine ⟨by decide,by decide,fun k hk=>?_⟩
          have hk:k < 1:=hk
          have:k=0:=by omega
          subst this
          decide
        · cases q
  | _=>cases h
abbrev afR:List Str:=["self","layer"]
theorem afb:FnScope afR ["self","layer"] (defScope aa2):=⟨rfl,rfl,rfl,by decide +kernel,rfl,by decide +kernel,by decide +kernel⟩
theorem afd (T:Tx P K mg base a d):FnG P w K mg base 3 (a aaP) (d aaP) ["self","layer"] (sp2 fun me x Q E=>∃ (tabs:List D) (nm:List (Key × D)),me=wld K tabs nm/\tabs.length<=2/\kindD x=true/\(layB tabs.length x=false->E (.ref (He.ga K "InvalidLayer")) (aaM x))/\(layB tabs.length x=true->∀ t,tabs[layIx x]?=some t->Q (.d t))):=by
  have G_World_layers:FnG P w K mg base 1 (a aaA) (d aaA) ["self"] (sp1 fun me Q _=>∃ (tabs:List D) (nm:List (Key × D)),me=wld K tabs nm/\Q (.d (.int tabs.length))):=adI T
  have G_is_layer:FnG P w K mg base 1 (a ach) (d ach) ["value","layers"] (sp2 fun x y Q _=>kindD x=true/\∃ m:Nat,y=.int m/\m<=2/\Q (.d (.bl (layB m x)))):=aih T
  refine adi T.F_World_rows_of afb (fun cdv A outer s H E hr hg=>(aah (acT (acQ (acs (aaf G_is_layer (hr.mono (by decide)) hg (tkOf rfl rfl rfl rfl) (ah3 T) (by rfl) T.m_is_layer T.F_is_layer.kp (aaa (aac (pv 1)) (aaa (ag9 (aac (pv 0)) T.cl_World T.pr_World_layers G_World_layers (hr.mono (by decide)) hg (adR T)) aab))))) (aai (acG rfl (tkOf rfl rfl rfl rfl) T.x_InvalidLayer (hr.mono (by decide)) (by rfl) T.m_InvalidLayer (aaa (aac (pv 1)) aab))) abD)
      (aai (aao (aan ix_seq aag (aec (K:=K) (aad (pv 0))) (al3 (by rfl) T.t_LAYERS (aac (pv 1))) (fun _ _=>rfl)))))) (fun me x Q E h=>?_)
  replace h:∃ (tabs:List D) (nm:List (Key × D)),me=wld K tabs nm/\tabs.length<=2/\kindD x=true/\(layB tabs.length x=false->E (.ref (He.ga K "InvalidLayer")) (aaM x))/\(layB tabs.length x=true->∀ t,tabs[layIx x]?=some t->Q (.d t)):=h
  obtain ⟨tabs,nm,rfl,hm,k,h0,h1⟩:=h
  refine aa1 (fun s=>layB tabs.length x=true/\s=[some (.d (wld K tabs nm)),some (.d x)]) (fun N hN=>?_) (fun s hs=>?_)
  · refine ⟨rfl,_,rfl,tabs,nm,rfl,?_⟩
    refine ⟨rfl,rfl,_,_,rfl,k,tabs.length,rfl,hm,?_⟩
    cases e:layB tabs.length x with
    | true=>exact abb (brF (hN _ ⟨e,rfl⟩))
    | false=>exact abb (brT ⟨rfl,afs (h0 e)⟩)
  obtain ⟨e,rfl⟩:=hs
  obtain ⟨z,rfl,g1,g2,g3⟩:=aoq hm e
  have g4:tabs[layIx (.str z)]?=some (tabs[layIx (.str z)]):=List.getElem?_eq_getElem g1
  refine agp T.cl_World T.na_World_own_tables rfl ?_
  refine l_idx (ss:=["foot","cart"]) rfl g2 g3 ?_
  refine acB (ds:=tabs) rfl (d:=tabs[layIx (.str z)]) ?_ (h1 e _ g4)
  exact amC g4
abbrev aeB:List Str:=["self","layer","row"]
theorem ac9:FnScope aeB ["self","layer"] (defScope aa8):=⟨rfl,rfl,rfl,by decide +kernel,rfl,by decide +kernel,by decide +kernel⟩
theorem agl (T:Tx P K mg base a d):FnG P w K mg base 5 (a abf) (d abf) ["self","layer"] (sp2 fun me x Q E=>∃ (n:Nat) (f:Nat->Nat->Rat) (fs:List (Nat->Nat->Rat)) (nm:List (Key × D)),me=wld K (tabL n f::fs.map (tabL n)) nm/\n<=9/\fs.length<=1/\kindD x=true/\(layB (fs.length + 1) x=false->E (.ref (He.ga K "InvalidLayer")) (aaM x))/\(layB (fs.length + 1) x=true->∀ g,(f::fs)[layIx x]?=some g->Q (.own (.lst ((List.range n).map fun i=>rowX n fun j=>rD (g i j)))))):=by
  have G_World_rows_of:FnG P w K mg base 3 (a aaP) (d aaP) ["self","layer"] (sp2 fun me x Q E=>∃ (tabs:List D) (nm:List (Key × D)),me=wld K tabs nm/\tabs.length<=2/\kindD x=true/\(layB tabs.length x=false->E (.ref (He.ga K "InvalidLayer")) (aaM x))/\(layB tabs.length x=true->∀ t,tabs[layIx x]?=some t->Q (.d t))):=afd T
  refine adi T.F_World_table ac9 (fun cdv A outer s H E hr hg=>(aai (aao (acU (own:=[("row",2)]) rfl ac9.nd (abX (aha (aac (pv 0)) T.cl_World T.me_World_rows_of G_World_rows_of (hr.mono (by decide)) hg (tkOf rfl rfl rfl rfl) (aeY T) (aaa (aac (pv 1)) aab))) (blkOk_by (own:=[("row",2)]) (N:=aeB) (sc:=(defScope aa8)) (by decide +kernel)) (fun _ _ _ _ _=>(aam (i:=2) ac9.nd rfl (Or.inl rfl))) (fun _ _ _ _ _=>aaJ) (fun _ _ _ _ _=>(afl call_list_of aiP (by rfl) T.n_list (by decide +kernel) (aaa (aad (pv 2)) aab))))))) (fun me x Q E h=>?_)
  replace h:∃ (n:Nat) (f:Nat->Nat->Rat) (fs:List (Nat->Nat->Rat)) (nm:List (Key × D)),me=wld K (tabL n f::fs.map (tabL n)) nm/\n<=9/\fs.length<=1/\kindD x=true/\(layB (fs.length + 1) x=false->E (.ref (He.ga K "InvalidLayer")) (aaM x))/\(layB (fs.length + 1) x=true->∀ g,(f::fs)[layIx x]?=some g->Q (.own (.lst ((List.range n).map fun i=>rowX n fun j=>rD (g i j))))):=h
  obtain ⟨n,f,fs,nm,rfl,n9,hm,kx,h0,h1⟩:=h
  have hz:szl=16777216:=rfl
  have tl:(tabL n f::fs.map (tabL n)).length=fs.length + 1:=by rw [List.length_cons,List.length_map]
  refine ⟨rfl,rfl,rfl,rfl,_,_,rfl,_,_,rfl,by rw [tl];omega,kx,(fun z=>by rw [tl] at z;exact h0 z),(fun z t e=>?_)⟩
  rw [tl] at z
  have e2:((f::fs).map (tabL n))[layIx x]?=some t:=e
  rw [List.getElem?_map] at e2
  obtain ⟨g,e3,e4⟩:=Option.map_eq_some_iff.mp e2
  subst e4
  refine abm ?_
  refine ada (fun i=>rowX n fun j=>rD (g i j)) (fun i=>rowX n fun j=>rD (g i j)) _ (by omega) (fun i hi M A m=>?_) (h1 z g e3)
  refine brT ?_
  exact akI (ds:=(List.range n).map fun j=>rD (g i j)) rfl m
theorem amH {n:Nat} {g:Nat->Nat->Rat} (n1:1<=n) (n9:n<=9) (hb:∀ i j,i < n->j < n->Nb 1900 (g i j)) (hg:GoodF n g):TabOk n (fun i j=>rD (g i j)) g:=⟨n1,n9,fun _ _ _ _=>aoe _,fun _ _ _ _=>aiS _,hb,hg⟩
abbrev aej:List Str:=["self","tables","names"]
theorem ad3:FnScope aej ["self","tables","names"] (defScope aaz):=⟨rfl,rfl,rfl,by decide +kernel,rfl,by decide +kernel,by decide +kernel⟩
theorem ad4 (T:Tx P K mg base a d):FnG P w K mg base 9 (a aat) (d aat) ["self","tables","names"] (sp3 fun _ tb nm Q E=>∃ (n:Nat) (ks:List Str) (pl:Str->Nat) (f:Nat->Nat->Rat) (fs:List (Nat->Nat->Rat)),tb=.lst ((f::fs).map (tabD n))/\nm=.dk (nmD ks pl)/\NmOk n ks pl/\1<=n/\n<=9/\fs.length<=1/\(∀ g∈f::fs,GoodF n g/\∀ i j,i < n->j < n->Nb 1900 (g i j))/\∀ ys:List Str,ys.Perm ks->sortedS ys=true->Q (.d (wld K (tabL n f::fs.map (tabL n)) (nmD ys pl)))):=by
  have G_World___init__:FnR P w K mg base 7 (a aal) (d aal) ["self","names","foot","cart"] (upIn K (He.ga K "World") fun args Q E=>∃ nm:D,∃ ft:D,∃ ct:D,args=[.d nm,.d ft,.d ct]/\(∃ (n:Nat) (e:Nat->Nat->D) (f:Nat->Nat->Rat) (ks:List Str) (val:Str->D) (fs:List (Nat->Nat->Rat)),nm=.dk (kvD ks val)/\ft=tabX n e/\TabOk n e f/\((ct=.non/\fs=[])\/∃ (e':Nat->Nat->D) (f':Nat->Nat->Rat),ct=tabX n e'/\TabOk n e' f'/\fs=[f'])/\NmDo K n ks val (fun ys=>Q [("own_tables",.lst (tabL n f::fs.map (tabL n))),("own_names",.dk (kvD ys val))]) E)):=acA T
  refine akZ T.F_World_with_tables ad3 (fun cdv A outer s H E hr hg=>(aai (aao (ajg T.mk_World G_World___init__ (hr.mono (by decide)) hg (tkOf rfl rfl rfl rfl) (acq T) rfl (by rfl) T.m_World (aaa (aac (pv 2)) (aaa (aan ix_seq aag (aad (pv 1)) aae (fun _ _=>rfl)) aab)) (ak7 (aeH (aaU (aba hr.units) acH (aaj call_len aaR (by rfl) T.n_len PySem.boot_len (aaa (aad (pv 1)) aab)) aae (nomark _)) (aan ix_seq aag (aad (pv 1)) aae (fun _ _=>rfl)) aeG) amx))))) (fun E tb nm Q E h=>?_)
  replace h:∃ (n:Nat) (ks:List Str) (pl:Str->Nat) (f:Nat->Nat->Rat) (fs:List (Nat->Nat->Rat)),tb=.lst ((f::fs).map (tabD n))/\nm=.dk (nmD ks pl)/\NmOk n ks pl/\1<=n/\n<=9/\fs.length<=1/\(∀ g∈f::fs,GoodF n g/\∀ i j,i < n->j < n->Nb 1900 (g i j))/\∀ ys:List Str,ys.Perm ks->sortedS ys=true->Q (.d (wld K (tabL n f::fs.map (tabL n)) (nmD ys pl))):=h
  obtain ⟨n,ks,pl,f,fs,rfl,rfl,nk,n1,n9,fl,hf,h⟩:=h
  have ok:∀ g∈f::fs,TabOk n (fun i j=>rD (g i j)) g:=fun g hg=>amH n1 n9 (hf g hg).2 (hf g hg).1
  refine acB (ds:=(f::fs).map (tabD n)) rfl ahd ?_
  refine abk (ds:=(f::fs).map (tabD n)) rfl ?_
  refine acC ?_
  match fs,fl,ok,h with
  | [],_,ok,h=>
    refine brF ?_
    exact ⟨rfl,rfl,_,_,_,rfl,n,_,f,ks,_,[],rfl,rfl,ok f (List.mem_cons_self ..),.inl ⟨rfl,rfl⟩,afP nk fun ys hp hs=>h ys hp hs⟩
  | [f'],_,ok,h=>
    refine brT ?_
    refine acB (ds:=[tabD n f,tabD n f']) rfl rfl ?_
    exact ⟨rfl,rfl,_,_,_,rfl,n,_,f,ks,_,[f'],rfl,rfl,ok f (List.mem_cons_self ..),.inr ⟨_,f',rfl,ok f' (by simp),rfl⟩,afP nk fun ys hp hs=>h ys hp hs⟩
theorem alW:∀ (ds:List D) (k:Int) (d:D) (r:List D),enumFrom k ds=d::r->∃ x ds',ds=x::ds'/\d=.tup [.int k,x]/\r=enumFrom (k + 1) ds'
  | [],_,_,_,h=>by cases h
  | x::ds',k,d,r,h=>by
    have e:enumFrom k (x::ds')=.tup [.int k,x]::enumFrom (k + 1) ds':=rfl
    rw [e] at h
    cases h
    exact ⟨x,ds',rfl,rfl,rfl⟩
theorem aoQ {g:TDG} {tt:TDT} {tk tv:TD} {vs:List Nat} {Q:DV->DSt->Prop} (S:DSt) (keep:Str->Bool) (pl:Str->Nat) {ys:List Str} (hl:ys.length<=1000) (nd:ys.Nodup)
    (step:∀ y∈ys,∀ (n:Nat) (M:Key->D->DSt->Prop) (N:DSt->Prop),n < szl->(keep y=true->M (.inr y) (.int (pl y)) S)->(keep y=false->N S)->g (.str y) S fun s1=>tt s1 (fun b s2=>Br b (tk s2 (fun x s3=>tv s3 (fun y s4=>match pubV x,pubV y with
      | .d kd,.d z=>(match keyOf kd with
        | some key=>n < szl/\M key z (wipeD s4 vs)
        | none=>False)
      | _,_=>False) fun _ _ _=>False) fun _ _ _=>False) (N (wipeD s2 vs))) fun _ _ _=>False)
    (q:Q (.own (.dk (nmD (ys.filter keep) pl))) S):dDcL g tt tk tv vs Q (ys.map .str) [] S:=by
  have hz:szl=16777216:=rfl
  have go:∀ (dn r:List Str),ys=dn++r->dDcL g tt tk tv vs Q (r.map .str) (nmD (dn.filter keep) pl) S:=by
    intro dn r
    induction r generalizing dn with
    | nil=>
      intro e
      rw [List.append_nil] at e
      subst e
      show dDcL g tt tk tv vs Q [] _ S
      rw [alc];exact q
    | cons p r ih=>
      intro e
      show dDcL g tt tk tv vs Q (.str p::r.map .str) _ S
      rw [aji]
      have mp:p∈ys:=by rw [e];simp
      have lt:(nmD (dn.filter keep) pl).length < szl:=by
        unfold nmD
        rw [List.length_map]
        have l1:(dn.filter keep).length<=dn.length:=List.length_filter_le ..
        have l2:=congrArg List.length e
        rw [List.length_append] at l2
        omega
      refine step p mp _ (fun key z s=>dDcL g tt tk tv vs Q (r.map .str) (putKD (nmD (dn.filter keep) pl) key z) s) (fun s=>dDcL g tt tk tv vs Q (r.map .str) (nmD (dn.filter keep) pl) s) lt (fun hk=>?_) (fun hk=>?_)
      · have nk:p∉dn.filter keep:=fun m=>by
          have m1:p∈dn:=(List.mem_filter.mp m).1
          rw [e,List.nodup_append] at nd
          exact nd.2.2 _ m1 _ (List.mem_cons_self ..) rfl
        have:=ih (dn++[p]) (by rw [e];simp)
        rw [List.filter_append,List.filter_cons_of_pos hk,List.filter_nil] at this
        show dDcL g tt tk tv vs Q _ (putKD _ _ _) S
        rw [afI (by rw [aii,if_neg nk])]
        unfold nmD at this ⊢
        rw [List.map_append] at this
        exact this
      · have:=ih (dn++[p]) (by rw [e];simp)
        rw [List.filter_append,List.filter_cons_of_neg (by rw [hk];decide),List.filter_nil,List.append_nil] at this
        exact this
  exact go [] ys rfl
theorem afU (p:Nat):∀ ps:List Nat,inF (.int (p:Int)) (ps.map fun q:Nat=>D.int (q:Int))=decide (p∈ps)
  | []=>rfl
  | q::r=>by
    have e:inF (.int (p:Int)) ((q::r).map fun q:Nat=>D.int (q:Int))=(((q:Int) == (p:Int)) || inF (.int (p:Int)) (r.map fun q:Nat=>D.int (q:Int))):=rfl
    rw [e,afU p r]
    by_cases z:q=p
    · subst z;simp
    · have z1:((q:Int) == (p:Int))=false:=beq_eq_false_iff_ne.mpr fun y=>z (by omega)
      rw [z1,Bool.false_or]
      by_cases z2:p∈r
      · rw [decide_eq_true z2,decide_eq_true (List.mem_cons_of_mem _ z2)]
      · rw [decide_eq_false z2,decide_eq_false (fun m=>(List.mem_cons.mp m).elim (fun y=>z y.symm) z2)]
theorem ai8 {ps:List Nat} {p:Nat} (h:p∈ps):FirstAt (ps.map fun q:Nat=>(q:Int)) (p:Int) (ps.idxOf p):=by
  refine ⟨?_,fun m hm e=>?_⟩
  · rw [List.getElem?_map,List.getElem?_eq_getElem (List.idxOf_lt_length_of_mem h),List.getElem_idxOf];rfl
  · rw [List.getElem?_map] at e
    obtain ⟨q,e1,e2⟩:=Option.map_eq_some_iff.mp e
    have e3:q=p:=by omega
    subst e3
    obtain ⟨hm',e4⟩:=List.getElem?_eq_some_iff.mp e1
    have h5:=List.not_of_lt_findIdx (p:=(· == q)) (xs:=ps) hm
    simp [e4] at h5
theorem amf {α:Type} (f:Nat->α) (ps:List Nat):ps.map f=(List.range ps.length).map fun i=>f (ps.getD i 0):=
  List.ext_getElem (by simp) fun i h1 h2=>by
    rw [List.length_map] at h1
    simp [List.getD_eq_getElem?_getD,h1]
theorem ahA:∀ (p:Str) (l:List Str),(p::l).Pairwise leS->risingS p l=true
  | p,[],_=>rfl
  | p,x::r,h=>by
    obtain ⟨h1,h2⟩:=List.pairwise_cons.mp h
    show (!ltCps x.cps.toList p.cps.toList && risingS x r)=true
    have e:ltCps x.cps.toList p.cps.toList=false:=h1 x (List.mem_cons_self ..)
    rw [e,ahA x r h2];rfl
theorem aes {ys:List Str} (h:sortedS ys=true) (f:Str->Bool):sortedS (ys.filter f)=true:=by
  have p:=(aer h).sublist (List.filter_sublist (p:=f))
  cases e:ys.filter f with
  | nil=>rfl
  | cons x r=>rw [e] at p;exact ahA x r p
abbrev isPl (n:Nat) (ps:List Nat) (x:D):Prop:=∃ p:Nat,x=.int (p:Int)/\p < n/\p∉ps
abbrev plD (ps:List Nat):List D:=ps.map fun p:Nat=>D.int (p:Int)
theorem afg (ps:List Nat):(plD ps).all flatD=true:=by
  rw [List.all_map]
  exact List.all_eq_true.mpr fun _ _=>rfl
theorem adH {ps:List Nat} {n i:Nat} (h:∀ p∈ps,p < n) (hi:i < ps.length):ps.getD i 0 < n:=by
  rw [List.getD_eq_getElem?_getD,List.getElem?_eq_getElem hi]
  exact h _ (List.getElem_mem hi)
theorem akW {n:Nat} {f:Nat->Nat->Rat} {ps:List Nat} (h:∀ p∈ps,p < n) (hf:GoodF n f):GoodF ps.length fun i j=>f (ps.getD i 0) (ps.getD j 0):=
  ⟨fun i j hi hj=>hf.pos _ _ (adH h hi) (adH h hj),fun i hi=>hf.dia _ (adH h hi),fun i j k hi hj hk=>hf.tri _ _ _ (adH h hi) (adH h hj) (adH h hk)⟩
theorem akr {n:Nat} {ys:List Str} {pl:Str->Nat} {ps:List Nat} (nk:NmOk n ys pl):NmOk ps.length (ys.filter fun y=>decide (pl y∈ps)) fun y=>ps.idxOf (pl y):=by
  have mem:∀ z,z∈(ys.filter fun y=>decide (pl y∈ps))->z∈ys/\pl z∈ps:=fun z h=>⟨(List.mem_filter.mp h).1,of_decide_eq_true (List.mem_filter.mp h).2⟩
  refine ⟨nk.nd.sublist List.filter_sublist,Nat.le_trans (List.length_filter_le ..) nk.l5,fun z h=>nk.nm z (mem z h).1,fun z h=>List.idxOf_lt_length_of_mem (mem z h).2,fun z hz y hy e=>?_⟩
  have a:=List.getElem_idxOf (List.idxOf_lt_length_of_mem (mem z hz).2)
  have b:=List.getElem_idxOf (List.idxOf_lt_length_of_mem (mem y hy).2)
  refine nk.inj z (mem z hz).1 y (mem y hy).1 ?_
  rw [<- a,<- b]
  simp [e]
abbrev pPart (K:PySem.W.Frag) (me t:D) (Q:DV->Prop) (E:XE'):Prop:=∃ (n m:Nat) (F:Nat->Nat->Nat->Rat) (ys:List Str) (pl:Str->Nat) (xs:List D),me=wld K (tabsF n m F) (nmD ys pl)/\t=.tup xs/\1<=n/\n<=9/\m<=1/\NmOk n ys pl/\sortedS ys=true/\xs.length<=9/\(∀ x∈xs,kindD x=true)/\(∀ k,k<=m->GoodF n (F k)/\∀ i j,i < n->j < n->Nb 1900 (F k i j))/\
  (xs=[]->E (.ref (He.ga K "InvalidNumber")) (acS (.int 0)))/\
  (∀ (ps:List Nat) (x:D) (r:List D),xs=plD ps++x::r->ps.Nodup->(∀ p∈ps,p < n)->¬ isPl n ps x->E (.ref (He.ga K "InvalidPlace")) (abJ x))/\
  (∀ ps:List Nat,xs=plD ps->ps≠[]->ps.Nodup->(∀ p∈ps,p < n)->Q (.d (wld K (tabsF ps.length m fun k i j=>F k (ps.getD i 0) (ps.getD j 0)) (nmD (ys.filter fun y=>decide (pl y∈ps)) fun y=>ps.idxOf (pl y)))))
abbrev acN:List Str:=["self","places","at","place","names","name","table","start","goal"]
theorem aaF:FnScope acN ["self","places"] (defScope aa9):=⟨rfl,rfl,rfl,by decide +kernel,rfl,by decide +kernel,by decide +kernel⟩
theorem aeA (T:Tx P K mg base a d):FnV P w K mg base 12 (a aci) (spV 1 (fun args Q E=>∃ me:D,∃ t:D,args=[.d me,.d t]/\(pPart K me t Q E))):=by
  have G_World_size:FnG P w K mg base 1 (a aaZ) (d aaZ) ["self"] (sp1 fun me Q _=>∃ (n:Nat) (f:Nat->Nat->Rat) (tabs:List D) (nm:List (Key × D)),me=wld K (tabL n f::tabs) nm/\Q (.d (.int n))):=aez T
  have G_World_with_tables:FnG P w K mg base 9 (a aat) (d aat) ["self","tables","names"] (sp3 fun _ tb nm Q E=>∃ (n:Nat) (ks:List Str) (pl:Str->Nat) (f:Nat->Nat->Rat) (fs:List (Nat->Nat->Rat)),tb=.lst ((f::fs).map (tabD n))/\nm=.dk (nmD ks pl)/\NmOk n ks pl/\1<=n/\n<=9/\fs.length<=1/\(∀ g∈f::fs,GoodF n g/\∀ i j,i < n->j < n->Nb 1900 (g i j))/\∀ ys:List Str,ys.Perm ks->sortedS ys=true->Q (.d (wld K (tabL n f::fs.map (tabL n)) (nmD ys pl)))):=ad4 T
  have G_is_number:FnG P w K mg base 2 (a abj) (d abj) ["value","least","most"] (sp3 fun x lo hi Q _=>kindD x=true/\∃ l m:Int,lo=.int l/\hi=.int m/\Q (.d (.bl (numD l m x)))):=ae2 T
  refine anC (ps:=["self"]) T.F_World_part aaF (fun _ _ _ _ _ _ us rest h=>match us,rest,h with | [_],[],_=>rfl | [_],_::_,_=>rfl) (fun args Q E h=>afO (by obtain ⟨me,t,rfl,h⟩:=h;intro x hx;simp only [List.mem_cons,List.not_mem_nil,or_false] at hx;rcases hx with rfl | rfl<;>exact .inl (.inl ⟨_,rfl⟩))) (fun cdv A outer s H E hr hg=>(aah (acT (ag8 (aaU (aba hr.units) acH (aaj call_len aaR (by rfl) T.n_len PySem.boot_len (aaa (aad (pv 1)) aab)) aae (nomark _)) 1) (aai (acG rfl (tkOf rfl rfl rfl rfl) T.x_InvalidNumber (hr.mono (by decide)) (by rfl) T.m_InvalidNumber (aaa aae aab))) abD)
      (aah (adO (passes_of rfl) rfl (al0 (al1 (by rfl) T.n_enumerate (aac (pv 1))) 1) (amy (n:=2) (K:=K) rfl (afk (aam (i:=2) aaF.nd rfl (Or.inl rfl)) (afk (aam (i:=3) aaF.nd rfl (Or.inl rfl)) ak9))) (aai (acT (ag8 (DW.dt (afW (acQ (acs (aaf G_is_number (hr.mono (by decide)) hg (tkOf rfl rfl rfl rfl) (aeL T) (by rfl) T.m_is_number T.F_is_number.kp (aaa (aac (pv 3)) (aaa aae (aaa (amz (ag9 (aac (pv 0)) T.cl_World T.pr_World_size G_World_size (hr.mono (by decide)) hg (aeJ T)) aae) aab)))))) (ae4 (aaU adn afE (aad (pv 3)) (agr (aad (pv 1)) ade (adc (aac (pv 2)))) (by rfl))))) 1) (aai (acG rfl (tkOf rfl rfl rfl rfl) T.x_InvalidPlace (hr.mono (by decide)) (by rfl) T.m_InvalidPlace (aaa (aac (pv 3)) aab))) abD)))
      (aah (alZ (i:=4) (own:=[("name",5)]) rfl aaF.nd rfl rfl (alr rfl rfl rfl (by decide +kernel)) (ak8 (aec (K:=K) (aad (pv 0)))) (blkOk_by (own:=[("name",5)]) (N:=acN) (sc:=(defScope aa9)) (by decide +kernel)) (fun _ _ _ _ _=>(aam (i:=5) aaF.nd rfl (Or.inl rfl))) (fun _ _ _ _ _=>(aiB (ag8 (aaU adn afE (adQ hr.units (aec (K:=K) (aad (pv 0))) (aac (pv 5))) (aad (pv 1)) (by rfl)) 1))) (fun _ _ _ _ _=>(aac (pv 5))) (fun _ _ _ _ _=>(anN (pv 1) (adQ hr.units (aec (K:=K) (aad (pv 0))) (aac (pv 5))))))
      (aai (aoJ 1 (anJ (i:=4) (aao (aha (aac (pv 0)) T.cl_World T.me_World_with_tables G_World_with_tables (hr.mono (by decide)) hg (tkOf rfl rfl rfl rfl) (adT T) (aaa (acU (own:=[("table",6)]) rfl aaF.nd (abX (aec (K:=K) (aad (pv 0)))) (blkOk_by (own:=[("table",6)]) (N:=acN) (sc:=(defScope aa9)) (by decide +kernel)) (fun _ _ _ _ _=>(aam (i:=6) aaF.nd rfl (Or.inr rfl))) (fun _ _ _ _ _=>aaJ) (fun _ _ _ _ _=>(acU (own:=[("start",7)]) rfl aaF.nd (abX (aac (pv 1))) (blkOk_by (own:=[("start",7)]) (N:=acN) (sc:=_) (by kernel_rfl)) (fun _ _ _ _ _=>(aam (i:=7) aaF.nd rfl (Or.inr rfl))) (fun _ _ _ _ _=>aaJ) (fun _ _ _ _ _=>(acU (own:=[("goal",8)]) rfl aaF.nd (abX (aac (pv 1))) (blkOk_by (own:=[("goal",8)]) (N:=acN) (sc:=_) (by kernel_rfl)) (fun _ _ _ _ _=>(aam (i:=8) aaF.nd rfl (Or.inl rfl))) (fun _ _ _ _ _=>aaJ) (fun _ _ _ _ _=>(aan ix_seq aag (aan ix_seq aag (aad (pv 6)) (aac (pv 7)) (fun _ _=>rfl)) (aac (pv 8)) (fun _ _=>rfl)))))))) (aaa (aac (pv 4)) aab))))))))))) (fun as ds xx Q E hl h=>?_)
  obtain ⟨a0,rfl⟩:=List.length_eq_one_iff.mp hl
  obtain ⟨me,_,he,h⟩:=h
  cases he
  obtain ⟨n,m,F,ys,pl,xs,rfl,ex,n1,n9,m1,nk,yso,x9,hk,hF,h0,h1,h2⟩:=h
  obtain rfl:xs=ds:=by injection ex with e;exact e.symm
  have hz:szl=16777216:=rfl
  refine aa1 (fun s=>xs≠[]/\s=[some (.d (wld K (tabsF n m F) (nmD ys pl))),some (tupP xx xs),none,none,none,none,none,none,none]) (fun N hN=>?_) (fun s hs=>?_)
  · refine ⟨xx,xs,rfl,?_⟩
    refine akJ (acC ?_)
    refine ⟨rfl,br (fun w=>?_) (fun w=>?_)⟩
    · have e:xs=[]:=List.eq_nil_of_length_eq_zero (by have:=of_decide_eq_true w;omega)
      exact ⟨rfl,ae8 (h0 e)⟩
    · exact hN _ ⟨fun e=>by subst e;exact absurd w (by decide),rfl⟩
  obtain ⟨xne,rfl⟩:=hs
  refine aa1 (fun s=>(∃ ps:List Nat,xs=plD ps/\ps.Nodup/\∀ p∈ps,p < n)/\∃ z2 z3,s=[some (.d (wld K (tabsF n m F) (nmD ys pl))),some (tupP xx xs),z2,z3,none,none,none,none,none]) (fun N hN=>?_) (fun s hs=>?_)
  · refine ⟨xx,xs,rfl,?_⟩
    refine anp (x:=.d (.tup xs)) (ds:=xs) rfl ?_
    refine ⟨rfl,?_⟩
    refine adX (fun q s=>∃ (ps:List Nat) (r:List D) (z2 z3:Option DV),xs=plD ps++r/\ps.Nodup/\(∀ p∈ps,p < n)/\q=enumFrom (ps.length:Int) r/\s=[some (.d (wld K (tabsF n m F) (nmD ys pl))),some (tupP xx xs),z2,z3,none,none,none,none,none]) (fun N2 d q s hN2 hs=>?_) (fun s hs=>?_) _ _ ⟨[],xs,none,none,rfl,.nil,(fun _ h=>by cases h),rfl,rfl⟩
    · obtain ⟨ps,r,z2,z3,er,nd,lt,eq,rfl⟩:=hs
      obtain ⟨v,r',e1,rfl,rfl⟩:=alW _ _ _ _ eq.symm
      subst e1
      refine ⟨rfl,g2 (s':=[some (.d (wld K (tabsF n m F) (nmD ys pl))),some (tupP xx xs),some (.d (.int (ps.length:Int))),some (.d v),none,none,none,none,none]) rfl ?_⟩
      have kv:kindD v=true:=hk v (by rw [er];simp)
      have lps:ps.length < 9:=by
        have:=congrArg List.length er
        rw [List.length_append,List.length_cons,List.length_map] at this
        omega
      refine ⟨xx,xs,rfl,?_⟩
      refine ⟨rfl,_,rfl,n,F 0,_,nmD ys pl,by rw [acY],?_⟩
      refine acO ?_
      refine ⟨rfl,rfl,_,_,_,rfl,kv,0,(n:Int) - 1,rfl,rfl,?_⟩
      have bad:¬ isPl n ps v->E (.ref (He.ga K "InvalidPlace")) (abJ v):=h1 ps v r' er nd lt
      cases e2:numD 0 ((n:Int) - 1) v with
      | false=>
        refine abb (brT ?_)
        refine ⟨rfl,brT ?_⟩
        refine ⟨rfl,ack (bad fun ⟨p,e3,hp,_⟩=>?_)⟩
        subst e3
        have e4:(decide ((0:Int)<=(p:Int)) && decide ((p:Int)<=(n:Int) - 1))=false:=e2
        rw [decide_eq_true (by omega),decide_eq_true (by omega)] at e4;cases e4
      | true=>
        refine abb (brF ?_)
        cases v with
        | int i=>
          have e3:(decide (0<=i) && decide (i<=(n:Int) - 1))=true:=e2
          simp only [Bool.and_eq_true,decide_eq_true_eq] at e3
          obtain ⟨p,rfl⟩:∃ p:Nat,i=(p:Int):=⟨i.toNat,by omega⟩
          refine aos ?_
          have ec:cut xs none (some (ps.length:Int))=plD ps:=by
            rw [er,ac3,List.take_left' (by rw [List.length_map])]
          rw [ec]
          refine anl rfl (afg ps) ?_
          rw [if_neg (by decide),afU]
          refine ⟨rfl,br (fun w=>?_) (fun w=>?_)⟩
          · refine ⟨rfl,ack (bad fun ⟨p',e4,_,hp⟩=>hp ?_)⟩
            have:p=p':=by injection e4 with e4;omega
            rw [<- this];exact of_decide_eq_true w
          · have np:p∉ps:=of_decide_eq_false w
            refine hN2 _ ⟨ps++[p],r',_,_,by rw [er];show _=List.map (fun p:Nat=>D.int (p:Int)) (ps++[p])++r';rw [List.map_append,List.append_assoc];rfl,?_,fun q hq=>?_,by rw [List.length_append,List.length_singleton];rfl,rfl⟩
            · rw [List.nodup_append]
              exact ⟨nd,by simp,fun a ha b hb=>by rw [List.mem_singleton.mp hb];exact fun z=>np (z ▸ ha)⟩
            · rcases List.mem_append.mp hq with hq | hq
              · exact lt q hq
              · rw [List.mem_singleton.mp hq];omega
        | _=>cases e2
    · obtain ⟨ps,r,z2,z3,er,nd,lt,eq,rfl⟩:=hs
      have e0:r=[]:=by
        cases r with
        | nil=>rfl
        | cons _ _=>cases eq
      subst e0
      rw [List.append_nil] at er
      exact hN _ ⟨⟨ps,er,nd,lt⟩,_,_,rfl⟩
  obtain ⟨⟨ps,rfl,pnd,plt⟩,z2,z3,rfl⟩:=hs
  have pne:ps≠[]:=fun e=>xne (by rw [e];rfl)
  refine ajS ?_
  refine agp T.cl_World T.na_World_own_names rfl (anh ?_)
  have ek:((nmD ys pl).map fun kv=>keyD kv.1)=ys.map D.str:=by
    unfold nmD
    rw [List.map_map];rfl
  rw [ek]
  have l5:=nk.l5
  refine aoQ [some (.d (wld K (tabsF n m F) (nmD ys pl))),some (tupP xx (plD ps)),z2,z3,none,none,none,none,none] (fun y=>decide (pl y∈ps)) (fun y=>ps.idxOf (pl y)) (by omega) nk.nd (fun y hy n' M N' hn hM hN'=>?_) ?_
  · have ev:valD (nmD ys pl) (.inr y)=some (.int (pl y)):=by rw [aii,if_pos hy]
    refine ⟨xx,plD ps,rfl,?_⟩
    refine agp T.cl_World T.na_World_own_names rfl ?_
    refine aeC rfl rfl ev ?_
    refine anl rfl (afg ps) ?_
    rw [if_neg (by decide),afU]
    refine ⟨rfl,br (fun w=>?_) (fun w=>?_)⟩
    · refine ⟨⟨xx,plD ps,rfl⟩,?_⟩
      refine agp T.cl_World T.na_World_own_names rfl ?_
      refine aeC rfl rfl ev ?_
      have ep:plD ps=(ps.map fun q:Nat=>(q:Int)).map D.int:=by rw [List.map_map];rfl
      refine ⟨xx,ps.map fun q:Nat=>(q:Int),(pl y:Int),ps.idxOf (pl y),by rw [<- ep];rfl,rfl,ai8 (of_decide_eq_true w),?_⟩
      exact ⟨hn,hM w⟩
    · exact hN' w
  refine ajT (s':=[some (.d (wld K (tabsF n m F) (nmD ys pl))),some (tupP xx (plD ps)),z2,z3,some (.own (.dk (nmD (ys.filter fun y=>decide (pl y∈ps)) fun y=>ps.idxOf (pl y)))),none,none,none,none]) rfl ?_
  refine ⟨xx,plD ps,rfl,?_⟩
  refine ⟨_,_,rfl,rfl,?_⟩
  obtain ⟨G,hG⟩:∃ G:Nat->Nat->Nat->Rat,∀ k i j,F k (ps.getD i 0) (ps.getD j 0)=G k i j:=⟨fun k i j=>F k (ps.getD i 0) (ps.getD j 0),fun _ _ _=>rfl⟩
  have eG:(fun k i j=>F k (ps.getD i 0) (ps.getD j 0))=G:=funext fun k=>funext fun i=>funext fun j=>hG k i j
  have pp:∀ {i:Nat},i < ps.length->ps.getD i 0 < n:=fun hi=>adH plt hi
  have er:plD ps=(List.range ps.length).map fun i=>D.int (ps.getD i 0:Nat):=amf (fun q:Nat=>D.int (q:Int)) ps
  have l9:ps.length<=9:=by rw [List.length_map] at x9;exact x9
  have l1:1<=ps.length:=by
    cases ps with
    | nil=>exact absurd rfl pne
    | cons=>simp
  refine ⟨rfl,rfl,?_⟩
  refine agp T.cl_World T.na_World_own_tables rfl (abm ?_)
  refine ada _ (fun k=>tabL ps.length (G k)) [some (.d (wld K (tabsF n m F) (nmD ys pl))),some (.d (.tup (plD ps))),z2,z3,some (.d (.dk (nmD (ys.filter fun y=>decide (pl y∈ps)) fun y=>ps.idxOf (pl y)))),none,none,none,none] (by omega) (fun k hk M A mm=>?_) ?_
  · refine brT ?_
    refine akL ?_
    rw [er]
    refine ada _ (fun i=>rowX ps.length fun j=>rD (G k i j)) [some (.d (wld K (tabsF n m F) (nmD ys pl))),some (.d (.tup ((List.range ps.length).map fun i=>D.int (ps.getD i 0:Nat)))),z2,z3,some (.d (.dk (nmD (ys.filter fun y=>decide (pl y∈ps)) fun y=>ps.idxOf (pl y)))),none,some (.d (tabL n (F k))),none,none] (by omega) (fun i hi M' A' mm'=>?_) ?_
    · refine brT ?_
      refine akL ?_
      refine ada _ (fun j=>rD (G k i j)) [some (.d (wld K (tabsF n m F) (nmD ys pl))),some (.d (.tup ((List.range ps.length).map fun i=>D.int (ps.getD i 0:Nat)))),z2,z3,some (.d (.dk (nmD (ys.filter fun y=>decide (pl y∈ps)) fun y=>ps.idxOf (pl y)))),none,some (.d (tabL n (F k))),some (.d (.int (ps.getD i 0:Nat))),none] (by omega) (fun j hj M'' A'' mm''=>?_) ?_
      · refine brT ?_
        refine ag0 (x:=fun i j=>rD (F k i j)) (pp hi) (ag1 (pp hj) ?_)
        rw [hG]
        exact mm''
      · exact mm'
    · rw [<- er];exact mm
  refine ⟨rfl,rfl,_,_,_,rfl,ps.length,(ys.filter fun y=>decide (pl y∈ps)),(fun y=>ps.idxOf (pl y)),G 0,(List.range m).map (fun k=>G (k + 1)),congrArg D.lst (acY ps.length m _),rfl,akr nk,l1,l9,by rw [List.length_map,List.length_range];exact m1,fun g hg=>?_,fun zs hp hs=>?_⟩
  · have:∃ k,k<=m/\g=G k:=by
      rcases List.mem_cons.mp hg with rfl | hg
      · exact ⟨0,by omega,rfl⟩
      · obtain ⟨k,hk,rfl⟩:=List.mem_map.mp hg
        have:=List.mem_range.mp hk
        exact ⟨k + 1,by omega,rfl⟩
    obtain ⟨k,hk,rfl⟩:=this
    have ek:(fun i j=>F k (ps.getD i 0) (ps.getD j 0))=G k:=funext fun i=>funext fun j=>hG k i j
    rw [<- ek]
    exact ⟨akW plt (hF k hk).1,fun i j hi hj=>(hF k hk).2 _ _ (pp hi) (pp hj)⟩
  · have h3:=h2 ps rfl pne pnd plt
    rw [eG,acY] at h3
    have so:sortedS (ys.filter fun y=>decide (pl y∈ps))=true:=aes yso _
    rw [aet hs so hp]
    exact h3
end
section
variable {P:Program} {w:World} {K:PySem.W.Frag} {mg:Str->Option Value} {base:Heap} {a:Nat->Addr} {d:Nat->FuncData}
abbrev ahQ:List Str:=["_law_src","_law_things","_law_found","_law_thing"]
theorem adl:FnScope ahQ ["_law_src","_law_things"] (defScope abL):=⟨rfl,rfl,rfl,by decide +kernel,rfl,by decide +kernel,by decide +kernel⟩
theorem adp (T:Tx P K mg base a d):FnG P w K mg base 2 (a aaI) (d aaI) ["_law_src","_law_things"] (fun args Q E=>∃ x:D,args=[.src,.d x]/\(∃ ds:List D,x=.lst ds/\ds.length<=1000/\∀ es:List D,es.Perm ds->Q (.d (.lst es)))):=by
  have G__law_draw:FnG P w K mg base 1 (a aas) (d aas) ["_law_src","_law_many"] (spDraw):=acM T
  refine aeb T.F__law_mixed adl (by rintro _ Q E ⟨x,rfl,h⟩;rfl) (fun args Q E h=>afO (by obtain ⟨x,rfl,h⟩:=h;intro x hx;simp only [List.mem_cons,List.not_mem_nil,or_false] at hx;rcases hx with rfl | rfl<;>first | exact .inl (.inl ⟨_,rfl⟩) | exact .inr rfl | exact .inl (by assumption))) (fun cdv A outer s H E hr hg=>(aah (abu (i:=2) adl.nd rfl (Or.inl rfl) (adP aab))
      (aah (adO (passes_of rfl) rfl (abX (aac (pv 1))) (aam (i:=3) adl.nd rfl (Or.inl rfl)) (aai (ak4 (pv 2) (aaf G__law_draw (hr.mono (by decide)) hg (tkOf rfl rfl rfl rfl) (aar T) (by rfl) T.m__law_draw T.F__law_draw.kp (aaa (aac (pv 0)) (aaa (adj (aaj call_len aaR (by rfl) T.n_len PySem.boot_len (aaa (aad (pv 2)) aab)) aae) aab))) (aac (pv 3)))))
      (aai (aao (aac (pv 2))))))) (fun args Q E h=>?_)
  obtain ⟨x,rfl,h⟩:=h
  obtain ⟨ds,rfl,hl,h⟩:=h
  have hz:szl=16777216:=rfl
  refine aev [] (fun Q hQ=>afS rfl rfl hQ) ?_
  refine aa1 (fun s=>∃ (es:List D) (a3:Option DV),es.Perm ds/\s=[some .src,some (.d (.lst ds)),some (.own (.lst es)),a3]) (fun N hN=>?_) (fun s hs=>?_)
  · refine abm ?_
    refine adX (fun r s=>∃ (dn es:List D) (a3:Option DV),ds=dn++r/\es.Perm dn/\s=[some .src,some (.d (.lst ds)),some (.own (.lst es)),a3]) (fun N1 d r s hN1 hs=>?_) (fun s hs=>?_) _ _ ⟨[],[],_,rfl,.refl _,rfl⟩
    · obtain ⟨dn,es,a3,e1,hp,rfl⟩:=hs
      have le:es.length=dn.length:=hp.length_eq
      have ld:dn.length<=1000:=by
        have:=congrArg List.length e1
        rw [List.length_append] at this
        omega
      refine anx es (fun k=>k<=es.length) d (fun Q hQ=>?_) (fun Q hQ=>hQ) (fun k hk=>?_) (fun k hk=>by omega) (by omega)
      · refine abk rfl (aeD ?_)
        refine ⟨rfl,rfl,_,rfl,by omega,by omega,fun m h0 h1=>?_⟩
        have:=hQ m.toNat (by omega)
        rw [Int.toNat_of_nonneg h0] at this
        exact this
      · refine hN1 _ ⟨dn++[d],insD es k d,some (.d d),by rw [e1];simp,?_,rfl⟩
        unfold insD
        have p1:(es.take k++[d]++es.drop k).Perm (d::(es.take k++es.drop k)):=by
          rw [List.append_assoc]
          exact List.perm_middle
        rw [List.take_append_drop] at p1
        exact p1.trans ((List.Perm.cons d hp).trans (List.perm_append_comm (l₁:=[d]) (l₂:=dn)))
    · obtain ⟨dn,es,a3,e1,hp,rfl⟩:=hs
      rw [List.append_nil] at e1
      subst e1
      exact hN _ ⟨es,a3,hp,rfl⟩
  obtain ⟨es,a3,hp,rfl⟩:=hs
  exact h es hp
abbrev ajB:List Str:=["_law_top","_law_bottom","_law_one","_law_other"]
theorem aee:FnScope ajB ["_law_top","_law_bottom"] (defScope acz):=⟨rfl,rfl,rfl,by decide +kernel,rfl,by decide +kernel,by decide +kernel⟩
theorem afM (T:Tx P K mg base a d):FnG P w K mg base 1 (a abG) (d abG) ["_law_top","_law_bottom"] (sp2 fun x y Q _=>∃ n m:Int,x=.int n/\y=.int m/\0 < m/\m.natAbs < 2 ^ 8000/\Q (.d (rD (Rat.divInt n m)))):=by
  refine adi T.F__law_low aee (fun cdv A outer s H E hr hg=>(aah (amt (i:=2) (j:=3) rfl aee.nd rfl rfl (by decide) rfl rfl (aaa (aaj call_abs amT (by rfl) T.n_abs (by decide +kernel) (aaa (aad (pv 0)) aab)) (aaa (aac (pv 1)) aab)) (by rfl))
      (aah (alY (passes_of rfl) (aaU op_gt (aaT fun _ _ _=>.bl _) (aad (pv 3)) aae (nomark _)) (aai (amt (i:=2) (j:=3) rfl aee.nd rfl rfl (by decide) rfl rfl (aaa (aac (pv 3)) (aaa (aoN (afl call_int1 amO (by rfl) T.n_int (by decide +kernel) (aaa (aad (pv 2)) aab)) (aac (pv 3))) aab)) (by rfl))))
      (aai (aao (ab1 (aaa (ahb (aac (pv 0)) (aac (pv 2))) (aaa (ahb (aac (pv 1)) (aac (pv 2))) aab)))))))) (fun x y Q E h=>?_)
  replace h:∃ n m:Int,x=.int n/\y=.int m/\0 < m/\m.natAbs < 2 ^ 8000/\Q (.d (rD (Rat.divInt n m))):=h
  obtain ⟨n,m,rfl,rfl,h1,h2,h⟩:=h
  have ea:(if n < 0 then -n else n)=((n.natAbs:Nat):Int):=by split<;>omega
  refine am3 (.int (n.natAbs:Nat)) (.int m) (s':=[some (.d (.int n)),some (.d (.int m)),none,none]) (fun Q hQ=>?_) ?_
  · refine l_abs ?_
    rw [ea]
    exact hQ
  refine aa1 (fun s=>s=[some (.d (.int n)),some (.d (.int m)),some (.d (.int (gcI n m))),some (.d (.int 0))]) (fun N hN=>?_) (fun s hs=>?_)
  · refine ⟨fun k s=>∃ x:Nat,s=[some (.d (.int n)),some (.d (.int m)),some (.d (.int (x:Int))),some (.d (.int (k:Int)))]/\Nat.gcd x k=Nat.gcd n.natAbs m.natAbs,⟨m.natAbs,n.natAbs,?_,rfl⟩,?_⟩
    · have:((m.natAbs:Nat):Int)=m:=by omega
      rw [this];rfl
    · rintro k s ⟨x,rfl,hg⟩
      refine acO ?_
      refine br (fun hk=>?_) (fun hk=>?_)
      · have hk':(0:Int) < (k:Int):=of_decide_eq_true hk
        refine l_int ?_
        refine agE hk' ?_
        refine ⟨x % k,Nat.mod_lt _ (by omega),k,?_,?_⟩
        · show [_,_,_,some (DV.d (.int ((x:Int) % (k:Int))))]=_
          rw [<- Int.natCast_emod]
        · rw [<- hg,Nat.gcd_comm x k,Nat.gcd_rec k x,Nat.gcd_comm]
      · have hk':¬ (0:Int) < (k:Int):=of_decide_eq_false hk
        have k0:k=0:=by omega
        subst k0
        refine hN _ ?_
        rw [Nat.gcd_zero_right] at hg
        rw [hg];rfl
  · subst hs
    refine agE (ag4 h1 h2) ?_
    refine agE (ag4 (n:=n) h1 h2) ?_
    rw [akd h1] at h
    exact adh rfl rfl h
abbrev ain:List Str:=["_law_one","_law_other"]
theorem ahu:FnScope ain ["_law_one","_law_other"] (defScope aca):=⟨rfl,rfl,rfl,by decide +kernel,rfl,by decide +kernel,by decide +kernel⟩
theorem ahJ (T:Tx P K mg base a d):FnG P w K mg base 2 (a abT) (d abT) ["_law_one","_law_other"] (sp2 fun x y Q _=>∃ p q:Rat,x=rD p/\y=rD q/\Nb 3900 p/\Nb 3900 q/\Q (.d (rD (p + q)))):=by
  have G__law_low:FnG P w K mg base 1 (a abG) (d abG) ["_law_top","_law_bottom"] (sp2 fun x y Q _=>∃ n m:Int,x=.int n/\y=.int m/\0 < m/\m.natAbs < 2 ^ 8000/\Q (.d (rD (Rat.divInt n m)))):=afM T
  refine adi T.F__law_plus ahu (fun cdv A outer s H E hr hg=>(aai (aao (aaf G__law_low (hr.mono (by decide)) hg (tkOf rfl rfl rfl rfl) (ae6 T) (by rfl) T.m__law_low T.F__law_low.kp (aaa (adj (adw (aan ix_seq aag (aad (pv 0)) aae (fun _ _=>rfl)) (aan ix_seq aag (aad (pv 1)) aae (fun _ _=>rfl))) (adw (aan ix_seq aag (aad (pv 1)) aae (fun _ _=>rfl)) (aan ix_seq aag (aad (pv 0)) aae (fun _ _=>rfl)))) (aaa (adw (aan ix_seq aag (aad (pv 0)) aae (fun _ _=>rfl)) (aan ix_seq aag (aad (pv 1)) aae (fun _ _=>rfl))) aab)))))) (fun x y Q E h=>?_)
  replace h:∃ p q:Rat,x=rD p/\y=rD q/\Nb 3900 p/\Nb 3900 q/\Q (.d (rD (p + q))):=h
  obtain ⟨p,q,rfl,rfl,hp,hq,h⟩:=h
  refine abl rfl (abl rfl (aea (mulW hp.n (nbd hq) (by decide)) ?_))
  refine abl rfl (abl rfl (aea (mulW hq.n (nbd hp) (by decide)) (aeD ?_)))
  refine abl rfl (abl rfl (aea (mulW (nbd hp) (nbd hq) (by decide)) ?_))
  refine ⟨rfl,rfl,_,_,rfl,_,_,rfl,rfl,Int.mul_pos (den_pos p) (den_pos q),ajf hp hq,?_⟩
  rw [agQ];exact h
abbrev aip:List Str:=["_law_one","_law_other"]
theorem ahw:FnScope aip ["_law_one","_law_other"] (defScope acd):=⟨rfl,rfl,rfl,by decide +kernel,rfl,by decide +kernel,by decide +kernel⟩
theorem ahM (T:Tx P K mg base a d):FnG P w K mg base 1 (a abW) (d abW) ["_law_one","_law_other"] (sp2 fun x y Q _=>∃ p q:Rat,x=rD p/\y=rD q/\Nb 3900 p/\Nb 3900 q/\Q (.d (.bl (decide (p < q))))):=by
  refine adi T.F__law_less ahw (fun cdv A outer s H E hr hg=>(aai (aao (aeI op_lt (aaT fun _ _ _=>.bl _) (adw (aan ix_seq aag (aad (pv 0)) aae (fun _ _=>rfl)) (aan ix_seq aag (aad (pv 1)) aae (fun _ _=>rfl))) (adw (aan ix_seq aag (aad (pv 1)) aae (fun _ _=>rfl)) (aan ix_seq aag (aad (pv 0)) aae (fun _ _=>rfl))) (nomark _))))) (fun x y Q E h=>?_)
  replace h:∃ p q:Rat,x=rD p/\y=rD q/\Nb 3900 p/\Nb 3900 q/\Q (.d (.bl (decide (p < q)))):=h
  obtain ⟨p,q,rfl,rfl,hp,hq,h⟩:=h
  refine abl rfl (abl rfl (aea (mulW hp.n (nbd hq) (by decide)) ?_))
  refine abl rfl (abl rfl (aea (mulW hq.n (nbd hp) (by decide)) ?_))
  refine acO ?_
  rw [amg];exact h
abbrev ahR:List Str:=["_law_pairs","_law_found","_law_pair"]
theorem acW:FnScope ahR ["_law_pairs"] (defScope abN):=⟨rfl,rfl,rfl,by decide +kernel,rfl,by decide +kernel,by decide +kernel⟩
theorem agT (T:Tx P K mg base a d):FnG P w K mg base 2 (a abt) (d abt) ["_law_pairs"] (sp1 fun x Q _=>∃ p q:Rat,x=.lst [rD p,rD q]/\Nb 3900 p/\Nb 3900 q/\Q (.d (rD (leastQ p q)))):=by
  have G__law_less:FnG P w K mg base 1 (a abW) (d abW) ["_law_one","_law_other"] (sp2 fun x y Q _=>∃ p q:Rat,x=rD p/\y=rD q/\Nb 3900 p/\Nb 3900 q/\Q (.d (.bl (decide (p < q))))):=ahM T
  refine ac6 T.F__law_least acW (fun cdv A outer s H E hr hg=>(aah (abu (i:=1) acW.nd rfl (Or.inl rfl) (aan ix_seq aag (aad (pv 0)) aae (fun _ _=>rfl)))
      (aah (adO (passes_of rfl) rfl (abX (aac (pv 0))) (aam (i:=2) acW.nd rfl (Or.inl rfl)) (aai (abu (i:=1) acW.nd rfl (Or.inl rfl) (aeH (acs (aaf G__law_less (hr.mono (by decide)) hg (tkOf rfl rfl rfl rfl) (ahj T) (by rfl) T.m__law_less T.F__law_less.kp (aaa (aac (pv 2)) (aaa (aac (pv 1)) aab)))) (aac (pv 2)) (aac (pv 1))))))
      (aai (aao (aac (pv 1))))))) (fun x Q E h=>?_)
  replace h:∃ p q:Rat,x=.lst [rD p,rD q]/\Nb 3900 p/\Nb 3900 q/\Q (.d (rD (leastQ p q))):=h
  obtain ⟨p,q,rfl,hp,hq,h⟩:=h
  refine aeQ (rD p) (fun Q hQ=>acB (ds:=[rD p,rD q]) rfl rfl hQ) ?_
  refine aa1 (fun s=>∃ a2,s=[some (.d (.lst [rD p,rD q])),some (.d (rD (leastQ p q))),a2]) (fun N hN=>?_) (fun s hs=>?_)
  · refine abm ?_
    show dForL _ _ _ [rD p,rD q] _
    rw [adN]
    refine ⟨rfl,rfl,_,_,rfl,p,p,rfl,rfl,hp,hp,?_⟩
    rw [decide_eq_false (by grind)]
    refine abb (brF ?_)
    show dForL _ _ _ [rD q] _
    rw [adN]
    refine ⟨rfl,rfl,_,_,rfl,q,p,rfl,rfl,hq,hp,?_⟩
    refine abb (br (fun z=>?_) (fun z=>?_))
    · have e:leastQ p q=q:=if_pos (of_decide_eq_true z)
      show dForL _ _ _ [] _
      rw [aeF]
      exact hN _ ⟨_,by rw [e];rfl⟩
    · have e:leastQ p q=p:=if_neg (of_decide_eq_false z)
      show dForL _ _ _ [] _
      rw [aeF]
      exact hN _ ⟨_,by rw [e];rfl⟩
  obtain ⟨a2,rfl⟩:=hs
  exact h
abbrev adL:List Str:=["_law_src","_law_many","_law_letters","_law_stem","_law_at","_law_letter","_law_k"]
theorem aa5:FnScope adL ["_law_src","_law_many"] (defScope aa6):=⟨rfl,rfl,rfl,by decide +kernel,rfl,by decide +kernel,by decide +kernel⟩
theorem agS (T:Tx P K mg base a d):FnG P w K mg base 3 (a abr) (d abr) ["_law_src","_law_many"] (fun args Q E=>∃ x:D,args=[.src,.d x]/\(∃ m:Nat,x=.int m/\m<=26/\∀ ns:List Str,ns.length=m->ns.Nodup->(∀ z∈ns,nameOk z=true)->Q (.own (.lst (ns.map .str))))):=by
  have G__law_draw:FnG P w K mg base 1 (a aas) (d aas) ["_law_src","_law_many"] (spDraw):=acM T
  have G__law_mixed:FnG P w K mg base 2 (a aaI) (d aaI) ["_law_src","_law_things"] (fun args Q E=>∃ x:D,args=[.src,.d x]/\(∃ ds:List D,x=.lst ds/\ds.length<=1000/\∀ es:List D,es.Perm ds->Q (.d (.lst es)))):=adp T
  have G__law_of:FnG P w K mg base 2 (a ab4) (d ab4) ["_law_src","_law_some"] (spOf):=agB T
  refine aeb T.F__law_names aa5 (by rintro _ Q E ⟨x,rfl,h⟩;rfl) (fun args Q E h=>afO (by obtain ⟨x,rfl,h⟩:=h;intro x hx;simp only [List.mem_cons,List.not_mem_nil,or_false] at hx;rcases hx with rfl | rfl<;>first | exact .inl (.inl ⟨_,rfl⟩) | exact .inr rfl | exact .inl (by assumption))) (fun cdv A outer s H E hr hg=>(aah (abu (i:=2) aa5.nd rfl (Or.inl rfl) (aaf G__law_mixed (hr.mono (by decide)) hg (tkOf rfl rfl rfl rfl) (adf T) (by rfl) T.m__law_mixed T.F__law_mixed.kp (aaa (aac (pv 0)) (aaa (afl (ajK rfl) ajY (by rfl) T.n_list (by decide +kernel) (aaa ac7 aab)) aab))))
      (aah (abu (i:=3) aa5.nd rfl (Or.inr rfl) (anM ac7 (acU (own:=[("_law_k",6)]) rfl aa5.nd (acf (by rfl) T.n_range (aaa (aaf G__law_draw (hr.mono (by decide)) hg (tkOf rfl rfl rfl rfl) (aar T) (by rfl) T.m__law_draw T.F__law_draw.kp (aaa (aac (pv 0)) (aaa aae aab))) aab)) (blkOk_by (own:=[("_law_k",6)]) (N:=adL) (sc:=(defScope aa6)) (by decide +kernel)) (fun _ _ _ _ _=>(aam (i:=6) aa5.nd rfl (Or.inl rfl))) (fun _ _ _ _ _=>aaJ) (fun _ _ _ _ _=>(aaf G__law_of (hr.mono (by decide)) hg ac4 (ael T) (by rfl) T.m__law_of T.F__law_of.kp (aaa (aac (pv 0)) (aaa ac7 aab)))))))
      (aah (abu (i:=4) aa5.nd rfl (Or.inr rfl) (aaf G__law_draw (hr.mono (by decide)) hg (tkOf rfl rfl rfl rfl) (aar T) (by rfl) T.m__law_draw T.F__law_draw.kp (aaa (aac (pv 0)) (aaa (adj (aaj call_len aaR (by rfl) T.n_len PySem.boot_len (aaa (aad (pv 3)) aab)) aae) aab))))
      (aai (aao (acU (own:=[("_law_letter",5)]) rfl aa5.nd (abX (agr (aad (pv 2)) ade (adc (aac (pv 1))))) (blkOk_by (own:=[("_law_letter",5)]) (N:=adL) (sc:=(defScope aa6)) (by decide +kernel)) (fun _ _ _ _ _=>(aam (i:=5) aa5.nd rfl (Or.inl rfl))) (fun _ _ _ _ _=>aaJ) (fun _ _ _ _ _=>(adj (adj (agr (aad (pv 3)) ade (adc (aac (pv 4)))) (aad (pv 5))) (agr (aad (pv 3)) (adc (aac (pv 4))) ade)))))))))) (fun args Q E h=>?_)
  obtain ⟨x,rfl,h⟩:=h
  obtain ⟨m,rfl,hm,h⟩:=h
  have hz:szl=16777216:=rfl
  have al:∀ c∈("abcdefghijklmnopqrstuvwxyz":Str).cps.toList,low c=true:=fun c hc=>decide_eq_true hc
  have sinj:∀ a b:Nat,sgD a=sgD b->a=b:=fun a b e=>by
    have:=ama (a:=[a]) (b:=[b]) (by injection e)
    simpa using this
  refine acV (fun d=>∃ cs:List Nat,d=.lst (cs.map sgD)/\cs.length=26/\cs.Nodup/\∀ c∈cs,low c=true) (fun Q hQ=>?_) (fun x hx=>?_)
  · refine anf (by decide) ?_
    refine ⟨rfl,rfl,_,rfl,_,rfl,by decide +kernel,fun es hp=>hQ _ ?_⟩
    obtain ⟨cs,rfl,hc⟩:=ad2 (f:=sgD) (P:=fun c=>low c=true) (es:=es) fun x hx=>by
      obtain ⟨c,hc,rfl⟩:=ahT (hp.mem_iff.mp hx)
      exact ⟨c,rfl,al c hc⟩
    refine ⟨cs,rfl,?_,aeU (f:=sgD) (hp.nodup_iff.mpr (ahN (f:=sgD) sinj (by decide +kernel))),hc⟩
    have:=hp.length_eq
    rw [List.length_map,ahn] at this
    rw [this];decide +kernel
  obtain ⟨ls,rfl,ll,lnd,lc⟩:=hx
  refine acV (fun d=>∃ cs:List Nat,d=.str (wd cs)/\cs.length<=4/\∀ c∈cs,low c=true) (fun Q hQ=>?_) (fun x hx=>?_)
  · refine ⟨⟨_,rfl⟩,?_⟩
    refine ⟨rfl,rfl,_,rfl,by decide,by decide,fun k h0 h1=>?_⟩
    refine ac2 (by omega) (by omega) ?_
    refine anb (fun x=>∃ c,x=sgD c/\low c=true) _ (by rw [abp];omega) (fun d hd M A hM=>?_) (fun xs hl hR=>?_)
    · refine brT ?_
      exact ⟨rfl,rfl,_,rfl,(fun o z=>by cases z),(by decide +kernel),(by decide +kernel),fun c hc=>hM _ ⟨c,rfl,al c hc⟩⟩
    · obtain ⟨cs,rfl,hc⟩:=ad2 hR
      rw [List.length_map,abp] at hl
      exact anj rfl (by omega) (hQ _ ⟨cs,rfl,by omega,hc⟩)
  obtain ⟨cs,rfl,cl,cc⟩:=hx
  have wl:(wd cs).length=cs.length:=agz cs
  refine acV (fun d=>∃ k:Nat,d=.int (k:Int)/\k<=cs.length) (fun Q hQ=>?_) (fun x hx=>?_)
  · refine akK (by omega) (aeD ?_)
    refine ⟨rfl,rfl,_,rfl,by omega,by omega,fun k h0 h1=>hQ _ ⟨k.toNat,by rw [Int.toNat_of_nonneg h0],by omega⟩⟩
  obtain ⟨k,rfl,hk⟩:=hx
  refine ajC (ds:=ls.map sgD) rfl ?_
  rw [ac3,<- List.map_take]
  refine abm ?_
  have tl:(ls.take m).length=m:=by rw [List.length_take];omega
  refine adb (fun d=>match d with | .str y=>.str (wd (cs.take k)++y++wd (cs.drop k)) | _=>.non) _ (by rw [List.length_map];omega) (fun d hd M A mm=>?_) ?_
  · obtain ⟨c,hc,rfl⟩:=List.mem_map.mp hd
    refine brT ?_
    have w1:(wd (cs.take k)).length<=4:=by rw [agz,List.length_take];omega
    have w2:(wd (cs.drop k)).length<=4:=by rw [agz,List.length_drop];omega
    have w3:(sgS c).length=1:=rfl
    refine aot (by omega) ?_
    rw [alh hk]
    refine amp (by omega) ?_
    refine aot (by omega) ?_
    rw [ali hk]
    refine amp (by rw [ah8];omega) ?_
    exact mm
  · have e:((ls.take m).map sgD).map (fun d=>match d with | .str y=>D.str (wd (cs.take k)++y++wd (cs.drop k)) | _=>.non)=((ls.take m).map fun c=>wd (cs.take k++[c]++cs.drop k)).map D.str:=by
      rw [List.map_map,List.map_map]
      refine List.map_congr_left fun c _=>?_
      show D.str (wd (cs.take k)++wd [c]++wd (cs.drop k))=D.str _
      rw [amb,amb]
    rw [e]
    refine h _ (by rw [List.length_map];exact tl) (ahN (fun a b q=>?_) (lnd.sublist (List.take_sublist _ _))) (fun z hz2=>?_)
    · have:=ama q
      rw [List.append_assoc,List.append_assoc] at this
      have:=List.append_cancel_left this
      simpa using this
    · obtain ⟨c,hc,rfl⟩:=List.mem_map.mp hz2
      refine am7 (by simp;omega) (by rw [List.length_append,List.length_append,List.length_take,List.length_drop];simp;omega) (fun x hx=>?_)
      rcases List.mem_append.mp hx with hx | hx
      · rcases List.mem_append.mp hx with hx | hx
        · exact cc x (List.mem_of_mem_take hx)
        · rw [List.mem_singleton.mp hx];exact lc c (List.mem_of_mem_take hc)
      · exact cc x (List.mem_of_mem_drop hx)
abbrev agW:List Str:=["_law_src","_law_way"]
theorem ad9:FnScope agW ["_law_src"] (defScope abx):=⟨rfl,rfl,rfl,by decide +kernel,rfl,by decide +kernel,by decide +kernel⟩
theorem agi (T:Tx P K mg base a d):FnG P w K mg base 2 (a abd) (d abd) ["_law_src"] (sr0 fun Q _=>∀ q:Rat,Ln 60 60000000 q->Q (.d (rD q))):=by
  have G__law_draw:FnG P w K mg base 1 (a aas) (d aas) ["_law_src","_law_many"] (spDraw):=acM T
  have G__law_low:FnG P w K mg base 1 (a abG) (d abG) ["_law_top","_law_bottom"] (sp2 fun x y Q _=>∃ n m:Int,x=.int n/\y=.int m/\0 < m/\m.natAbs < 2 ^ 8000/\Q (.d (rD (Rat.divInt n m)))):=afM T
  refine aoE T.F__law_length ad9 (fun cdv A outer s H E hr hg=>(aah (abu (i:=1) ad9.nd rfl (Or.inl rfl) (aaf G__law_draw (hr.mono (by decide)) hg (tkOf rfl rfl rfl rfl) (aar T) (by rfl) T.m__law_draw T.F__law_draw.kp (aaa (aac (pv 0)) (aaa aae aab))))
      (aah (acT (aaU op_lt (aaT fun _ _ _=>.bl _) (aad (pv 1)) aae (nomark _)) (aai (aao (ab1 (aaa (aaf G__law_draw (hr.mono (by decide)) hg (tkOf rfl rfl rfl rfl) (aar T) (by rfl) T.m__law_draw T.F__law_draw.kp (aaa (aac (pv 0)) (aaa aae aab))) (aaa aae aab))))) abD)
      (aah (acT (aaU op_lt (aaT fun _ _ _=>.bl _) (aad (pv 1)) aae (nomark _)) (aai (aao (aaf G__law_low (hr.mono (by decide)) hg (tkOf rfl rfl rfl rfl) (ae6 T) (by rfl) T.m__law_low T.F__law_low.kp (aaa (aaf G__law_draw (hr.mono (by decide)) hg (tkOf rfl rfl rfl rfl) (aar T) (by rfl) T.m__law_draw T.F__law_draw.kp (aaa (aac (pv 0)) (aaa aae aab))) (aaa (adj aae (aaf G__law_draw (hr.mono (by decide)) hg (tkOf rfl rfl rfl rfl) (aar T) (by rfl) T.m__law_draw T.F__law_draw.kp (aaa (aac (pv 0)) (aaa aae aab)))) aab))))) abD)
      (aai (aao (ab1 (aaa (aaf G__law_draw (hr.mono (by decide)) hg (tkOf rfl rfl rfl rfl) (aar T) (by rfl) T.m__law_draw T.F__law_draw.kp (aaa (aac (pv 0)) (aaa (aoK aae aae) aab))) (aaa aae aab))))))))) (fun Q E h=>?_)
  replace h:∀ q:Rat,Ln 60 60000000 q->Q (.d (rD q)):=h
  have int:∀ n:Int,0<=n->n<=1000000->Q (.d (rt n 1)):=fun n h0 hn=>h (n:Rat) (aop h0 hn)
  refine acV (fun x=>∃ n:Int,x=.int n) (fun Q hQ=>⟨rfl,rfl,_,rfl,by decide,by decide,fun n _ _=>hQ _ ⟨n,rfl⟩⟩) (fun x hx=>?_)
  obtain ⟨n,rfl⟩:=hx
  refine acO ?_
  refine br (fun _=>?_) (fun _=>?_)
  · refine ⟨rfl,rfl,_,rfl,by decide,by decide,fun m h0 h1=>?_⟩
    exact adh rfl rfl (int _ h0 (by omega))
  · refine acO ?_
    refine br (fun _=>?_) (fun _=>?_)
    · refine ⟨rfl,rfl,_,rfl,by decide,by decide,fun m h0 h1=>?_⟩
      refine ⟨rfl,rfl,_,rfl,by decide,by decide,fun k k0 k1=>?_⟩
      refine aeD ?_
      refine ⟨rfl,rfl,_,_,rfl,m,1 + k,rfl,rfl,by omega,?_,?_⟩
      · exact Nat.lt_of_lt_of_le (show (1 + k).natAbs < 2 ^ 40 by omega) (Nat.pow_le_pow_right (by decide) (by decide))
      · exact h _ ((ana (B:=13) h0 (by omega) (by omega) (by omega)).mono (by decide))
    · refine agE ⟨by decide,by decide,by decide⟩ ?_
      refine ⟨rfl,rfl,_,rfl,by decide,by decide,fun m h0 h1=>?_⟩
      have h1':m < 1000000:=h1
      exact adh rfl rfl (int _ h0 (by omega))
abbrev adr:List Str:=["_law_rows","_law_size","_law_by","_law_one","_law_other"]
theorem aaY:FnScope adr ["_law_rows"] (defScope aa7):=⟨rfl,rfl,rfl,by decide +kernel,rfl,by decide +kernel,by decide +kernel⟩
theorem agk (T:Tx P K mg base a d):FnG P w K mg base 3 (a abe) (d abe) ["_law_rows"] (sp1 fun x Q _=>∃ (n:Nat) (f:Nat->Nat->Rat),x=tabD n f/\n<=5/\(∀ i j,i < n->j < n->Nb 40 (f i j))/\Q (.d (tabD n (closeF f n)))):=by
  have G__law_least:FnG P w K mg base 2 (a abt) (d abt) ["_law_pairs"] (sp1 fun x Q _=>∃ p q:Rat,x=.lst [rD p,rD q]/\Nb 3900 p/\Nb 3900 q/\Q (.d (rD (leastQ p q)))):=agT T
  have G__law_plus:FnG P w K mg base 2 (a abT) (d abT) ["_law_one","_law_other"] (sp2 fun x y Q _=>∃ p q:Rat,x=rD p/\y=rD q/\Nb 3900 p/\Nb 3900 q/\Q (.d (rD (p + q)))):=ahJ T
  refine ac6 T.F__law_closed aaY (fun cdv A outer s H E hr hg=>(aah (abu (i:=1) aaY.nd rfl (Or.inr rfl) (aaj call_len aaR (by rfl) T.n_len PySem.boot_len (aaa (aad (pv 0)) aab)))
      (aah (adO (passes_of rfl) rfl (acf (by rfl) T.n_range (aaa (aac (pv 1)) aab)) (aam (i:=2) aaY.nd rfl (Or.inr rfl)) (aai (ams (i:=0) (abu (i:=0) aaY.nd rfl (Or.inr rfl) (acU (own:=[("_law_one",3)]) rfl aaY.nd (acf (by rfl) T.n_range (aaa (aac (pv 1)) aab)) (blkOk_by (own:=[("_law_one",3)]) (N:=adr) (sc:=(defScope aa7)) (by decide +kernel)) (fun _ _ _ _ _=>(aam (i:=3) aaY.nd rfl (Or.inr rfl))) (fun _ _ _ _ _=>aaJ) (fun _ _ _ _ _=>(acU (own:=[("_law_other",4)]) rfl aaY.nd (acf (by rfl) T.n_range (aaa (aac (pv 1)) aab)) (blkOk_by (own:=[("_law_other",4)]) (N:=adr) (sc:=_) (by kernel_rfl)) (fun _ _ _ _ _=>(aam (i:=4) aaY.nd rfl (Or.inl rfl))) (fun _ _ _ _ _=>aaJ) (fun _ _ _ _ _=>(aaf G__law_least (hr.mono (by decide)) hg ac4 (agw T) (by rfl) T.m__law_least T.F__law_least.kp (aaa (adP (aaa (aan ix_seq aag (aan ix_seq aag (aad (pv 0)) (aac (pv 3)) (fun _ _=>rfl)) (aac (pv 4)) (fun _ _=>rfl)) (aaa (aaf G__law_plus (hr.mono (by decide)) hg ac4 (ahg T) (by rfl) T.m__law_plus T.F__law_plus.kp (aaa (aan ix_seq aag (aan ix_seq aag (aad (pv 0)) (aac (pv 3)) (fun _ _=>rfl)) (aac (pv 2)) (fun _ _=>rfl)) (aaa (aan ix_seq aag (aan ix_seq aag (aad (pv 0)) (aac (pv 2)) (fun _ _=>rfl)) (aac (pv 4)) (fun _ _=>rfl)) aab))) aab))) aab))))))))))
      (aai (aao (aac (pv 0))))))) (fun x Q E h=>?_)
  replace h:∃ (n:Nat) (f:Nat->Nat->Rat),x=tabD n f/\n<=5/\(∀ i j,i < n->j < n->Nb 40 (f i j))/\Q (.d (tabD n (closeF f n))):=h
  obtain ⟨n,f,rfl,h5,hb,h⟩:=h
  have hz:szl=16777216:=rfl
  refine aeQ (.int n) (fun Q hQ=>aed hQ) ?_
  have lst0:∀ g:Nat->Nat->Rat,pubO (.lst ((List.range n).map fun i=>rowX n fun j=>rD (g i j)))=tabD n g:=fun g=>rfl
  refine aa1 (fun s=>∃ a0 a2,(a0=.d (tabD n (closeF f n))\/a0=.own (.lst ((List.range n).map fun i=>rowX n fun j=>rD (closeF f n i j))))/\s=[some a0,some (.d (.int n)),a2,none,none]) (fun N hN=>?_) (fun s hs=>?_)
  · refine ac2 (by omega) (by omega) ?_
    refine adX (fun r s=>∃ (m:Nat) (a0:DV) (a2:Option DV),m<=n/\r=intsFrom (m:Int) (n - m)/\(a0=.d (tabD n (closeF f m))\/a0=.own (.lst ((List.range n).map fun i=>rowX n fun j=>rD (closeF f m i j))))/\s=[some a0,some (.d (.int n)),a2,none,none]) (fun N1 d r s hN1 hs=>?_) (fun s hs=>?_) _ _ ⟨0,_,_,by omega,rfl,.inl rfl,rfl⟩
    · obtain ⟨m,a0,a2,hm,er,ha,rfl⟩:=hs
      have hmn:m < n:=by
        rcases Nat.lt_or_ge m n with z | z
        · exact z
        · have:n - m=0:=by omega
          rw [this] at er;cases er
      obtain ⟨k,ek⟩:∃ k,n - m=k + 1:=⟨n - m - 1,by omega⟩
      rw [ek] at er
      have er2:d::r=.int (m:Int)::intsFrom ((m:Int) + 1) k:=er
      cases er2
      have bts:=ad0 hb m (by omega)
      have b5:bitsF m<=1000:=by
        have:m<=4:=by omega
        match m,this with
        | 0,_=>decide
        | 1,_=>decide
        | 2,_=>decide
        | 3,_=>decide
        | 4,_=>decide
      have ep:pubSl 0 [some a0,some (.d (.int n)),some (.d (.int (m:Int))),none,none]=[some (.d (tabD n (closeF f m))),some (.d (.int n)),some (.d (.int (m:Int))),none,none]:=by
        rcases ha with rfl | rfl<;>rfl
      show dSet _ 0 _ (pubSl 0 [some a0,some (.d (.int n)),some (.d (.int (m:Int))),none,none])
      rw [ep]
      refine ac2 (by omega) (by omega) ?_
      refine aiq (fun i=>rowX n fun j=>rD (stepF (closeF f m) m i j)) _ (by omega) (fun i hi M A mm=>?_) ?_
      · refine brT ?_
        refine ac2 (by omega) (by omega) ?_
        refine aiq (fun j=>rD (stepF (closeF f m) m i j)) _ (by omega) (fun j hj M' A' mm'=>?_) mm
        refine brT ?_
        refine ag0 (x:=fun i j=>rD (closeF f m i j)) hi (ag1 hj ?_)
        refine ag0 (x:=fun i j=>rD (closeF f m i j)) hi (ag1 hmn ?_)
        refine ag0 (x:=fun i j=>rD (closeF f m i j)) hmn (ag1 hj ?_)
        refine ⟨rfl,rfl,_,_,rfl,_,_,rfl,rfl,(bts i m hi hmn).mono (by omega),(bts m j hmn hj).mono (by omega),?_⟩
        refine afS rfl rfl ?_
        exact ⟨rfl,rfl,_,rfl,_,_,rfl,(bts i j hi hj).mono (by omega),(aks (bts i m hi hmn) (bts m j hmn hj)).mono (by omega),mm'⟩
      · refine hN1 _ ⟨m + 1,_,_,by omega,?_,.inr rfl,rfl⟩
        have:n - (m + 1)=k:=by omega
        rw [this]
        show intsFrom ((m:Int) + 1) k=intsFrom ((m + 1:Nat):Int) k
        congr 1
    · obtain ⟨m,a0,a2,hm,er,ha,rfl⟩:=hs
      have:m=n:=by
        rcases Nat.lt_or_ge m n with z | z
        · obtain ⟨k,ek⟩:∃ k,n - m=k + 1:=⟨n - m - 1,by omega⟩
          rw [ek] at er;cases er
        · omega
      subst this
      exact hN _ ⟨a0,a2,ha,rfl⟩
  obtain ⟨a0,a2,ha,rfl⟩:=hs
  rcases ha with rfl | rfl
  · exact h
  · exact h
end
section
variable {P:Program} {w:World} {K:PySem.W.Frag} {mg:Str->Option Value} {base:Heap} {a:Nat->Addr} {d:Nat->FuncData}
theorem pick1 {n:Nat} {R:Nat->Rat->Prop} (h:∀ i,i < n->∃ q,R i q):∃ f:Nat->Rat,∀ i,i < n->R i (f i):=
  ⟨fun i=>if z:i < n then (h i z).choose else 0,fun i hi=>by
    show R i (if z:i < n then (h i z).choose else 0)
    rw [dif_pos hi];exact (h i hi).choose_spec⟩
theorem pick2 {n:Nat} {R:Nat->(Nat->Rat)->Prop} (h:∀ i,i < n->∃ q,R i q):∃ f:Nat->Nat->Rat,∀ i,i < n->R i (f i):=
  ⟨fun i=>if z:i < n then (h i z).choose else fun _=>0,fun i hi=>by
    show R i (if z:i < n then (h i z).choose else fun _=>0)
    rw [dif_pos hi];exact (h i hi).choose_spec⟩
structure TabQ (n:Nat) (f:Nat->Nat->Rat):Prop where
  gd:GoodF n f
  ln:∀ i j,i < n->j < n->Ln 60 2000000000 (f i j)
theorem TabQ.nb {n:Nat} {f:Nat->Nat->Rat} (h:TabQ n f) (i j:Nat) (hi:i < n) (hj:j < n):Nb 1400 (f i j):=((h.ln i j hi hj).nb (k:=40) (by decide) (by decide) (by decide)).mono (by decide)
abbrev adK:List Str:=["_law_src","_law_size","_law_one","_law_other"]
theorem aco:FnScope adK ["_law_src","_law_size"] (defScope abo):=⟨rfl,rfl,rfl,by decide +kernel,rfl,by decide +kernel,by decide +kernel⟩
theorem agR (T:Tx P K mg base a d):FnG P w K mg base 4 (a abq) (d abq) ["_law_src","_law_size"] (fun args Q E=>∃ x:D,args=[.src,.d x]/\(∃ n:Nat,x=.int n/\n<=5/\∀ f:Nat->Nat->Rat,TabQ n f->Q (.d (tabD n f)))):=by
  have G__law_closed:FnG P w K mg base 3 (a abe) (d abe) ["_law_rows"] (sp1 fun x Q _=>∃ (n:Nat) (f:Nat->Nat->Rat),x=tabD n f/\n<=5/\(∀ i j,i < n->j < n->Nb 40 (f i j))/\Q (.d (tabD n (closeF f n)))):=agk T
  have G__law_length:FnG P w K mg base 2 (a abd) (d abd) ["_law_src"] (sr0 fun Q _=>∀ q:Rat,Ln 60 60000000 q->Q (.d (rD q))):=agi T
  refine aeb T.F__law_table aco (by rintro _ Q E ⟨x,rfl,h⟩;rfl) (fun args Q E h=>afO (by obtain ⟨x,rfl,h⟩:=h;intro x hx;simp only [List.mem_cons,List.not_mem_nil,or_false] at hx;rcases hx with rfl | rfl<;>first | exact .inl (.inl ⟨_,rfl⟩) | exact .inr rfl | exact .inl (by assumption))) (fun cdv A outer s H E hr hg=>(aai (aao (aaf G__law_closed (hr.mono (by decide)) hg (tkOf rfl rfl rfl rfl) (af1 T) (by rfl) T.m__law_closed T.F__law_closed.kp (aaa (acU (own:=[("_law_one",2)]) rfl aco.nd (acf (by rfl) T.n_range (aaa (aac (pv 1)) aab)) (blkOk_by (own:=[("_law_one",2)]) (N:=adK) (sc:=(defScope abo)) (by decide +kernel)) (fun _ _ _ _ _=>(aam (i:=2) aco.nd rfl (Or.inr rfl))) (fun _ _ _ _ _=>aaJ) (fun _ _ _ _ _=>(acU (own:=[("_law_other",3)]) rfl aco.nd (acf (by rfl) T.n_range (aaa (aac (pv 1)) aab)) (blkOk_by (own:=[("_law_other",3)]) (N:=adK) (sc:=_) (by kernel_rfl)) (fun _ _ _ _ _=>(aam (i:=3) aco.nd rfl (Or.inl rfl))) (fun _ _ _ _ _=>aaJ) (fun _ _ _ _ _=>(aeH (aaU (aba hr.units) acH (aad (pv 2)) (aad (pv 3)) (nomark _)) (ab1 (aaa aae (aaa aae aab))) (aaf G__law_length (hr.mono (by decide)) hg ac4 (af0 T) (by rfl) T.m__law_length T.F__law_length.kp (aaa (aac (pv 0)) aab))))))) aab))))) (fun args Q E h=>?_)
  obtain ⟨x,rfl,h⟩:=h
  obtain ⟨n,rfl,h5,h⟩:=h
  have hz:szl=16777216:=rfl
  refine ac2 (by omega) (by omega) ?_
  refine afh (fun i d=>∃ g:Nat->Rat,d=rowX n (fun j=>rD (g j))/\∀ j,j < n->Ln 60 60000000 (g j)/\(i=j->g j=0)) _ (by omega) (fun i hi M A hM=>?_) (fun ds hds=>?_)
  · refine brT ?_
    refine ac2 (by omega) (by omega) ?_
    refine afh (fun j d=>∃ q:Rat,d=rD q/\Ln 60 60000000 q/\(i=j->q=0)) _ (by omega) (fun j hj M' A' hM'=>?_) (fun es hes=>?_)
    · refine brT ?_
      refine acC ?_
      refine br (fun z=>?_) (fun z=>?_)
      · exact adh rfl rfl (hM' _ ⟨0,rfl,am9,fun _=>rfl⟩)
      · have ne:i≠j:=fun e=>of_decide_eq_false z (by rw [e])
        exact ⟨rfl,rfl,rfl,fun q hq=>hM' _ ⟨q,rfl,hq,fun e=>absurd e ne⟩⟩
    · obtain ⟨g,hg⟩:=pick1 hes
      refine hM _ ⟨g,?_,fun j hj=>(hg j hj).2⟩
      show D.lst ((List.range n).map es)=D.lst ((List.range n).map fun j=>rD (g j))
      congr 1
      exact List.map_congr_left fun j hj=>(hg j (List.mem_range.mp hj)).1
  · obtain ⟨f,hf⟩:=pick2 hds
    have e:D.lst ((List.range n).map ds)=tabD n f:=by
      unfold tabD tabX
      congr 1
      exact List.map_congr_left fun i hi=>(hf i (List.mem_range.mp hi)).1
    refine ⟨rfl,rfl,_,rfl,n,f,e,h5,fun i j hi hj=>(((hf i hi).2 j hj).1.nb (k:=40) (by decide) (by decide) (by decide)),?_⟩
    refine h _ ⟨ajJ (fun i j hi hj=>((hf i hi).2 j hj).1.nn) (fun i hi=>((hf i hi).2 i hi).2 rfl),fun i j hi hj=>(ajm (by decide) (fun i j hi hj=>((hf i hi).2 j hj).1) n (Nat.le_refl _) i j hi hj).mono ?_⟩
    match n,h5 with
    | 0,_=>decide
    | 1,_=>decide
    | 2,_=>decide
    | 3,_=>decide
    | 4,_=>decide
    | 5,_=>decide
abbrev planD (n:Nat) (ks:List Str) (pl:Str->Nat) (fs:List (Nat->Nat->Rat)):D:=.tup [.lst (ks.map fun s=>.tup [.str s,.int (pl s)]),.lst (fs.map (tabD n))]
theorem als (ks:List Str):strsD (ks.map D.str)=some ks:=by
  induction ks with
  | nil=>rfl
  | cons k r ih=>show (strsD (r.map D.str)).map (k::·)=_;rw [ih];rfl
theorem akx {ks:List Str} {pl:Str->Nat} (h:ks.Nodup):mergeD [] (nmD ks pl)=nmD ks pl:=ai0 pl ks [] (by simpa using h)
abbrev acp:List Str:=["_law_src","_law_names_here","_law_size","_law_layers","_law_places","_law_order","_law_k","_law_layer"]
theorem aay:FnScope acp ["_law_src","_law_names_here","_law_size","_law_layers"] (defScope aaq):=⟨rfl,rfl,rfl,by decide +kernel,rfl,by decide +kernel,by decide +kernel⟩
theorem aeg (T:Tx P K mg base a d):FnG P w K mg base 5 (a aav) (d aav) ["_law_src","_law_names_here","_law_size","_law_layers"] (fun args Q E=>∃ x:D,∃ y:D,∃ z:D,args=[.src,.d x,.d y,.d z]/\(∃ (ns:List Str) (n m:Nat),x=.lst (ns.map .str)/\y=.int n/\z=.int m/\ns.length<=5/\ns.Nodup/\(∀ s∈ns,nameOk s=true)/\1<=n/\n<=5/\m<=2/\∀ (ks:List Str) (pl:Str->Nat) (fs:List (Nat->Nat->Rat)),NmOk n ks pl->sortedS ks=true->fs.length=m->(∀ g∈fs,TabQ n g)->Q (.d (planD n ks pl fs)))):=by
  have G__law_mixed:FnG P w K mg base 2 (a aaI) (d aaI) ["_law_src","_law_things"] (fun args Q E=>∃ x:D,args=[.src,.d x]/\(∃ ds:List D,x=.lst ds/\ds.length<=1000/\∀ es:List D,es.Perm ds->Q (.d (.lst es)))):=adp T
  have G__law_table:FnG P w K mg base 4 (a abq) (d abq) ["_law_src","_law_size"] (fun args Q E=>∃ x:D,args=[.src,.d x]/\(∃ n:Nat,x=.int n/\n<=5/\∀ f:Nat->Nat->Rat,TabQ n f->Q (.d (tabD n f)))):=agR T
  refine aeb T.F__law_spread_plan aay (by rintro _ Q E ⟨x,y,z,rfl,h⟩;rfl) (fun args Q E h=>afO (by obtain ⟨x,y,z,rfl,h⟩:=h;intro x hx;simp only [List.mem_cons,List.not_mem_nil,or_false] at hx;rcases hx with rfl | rfl | rfl | rfl<;>first | exact .inl (.inl ⟨_,rfl⟩) | exact .inr rfl | exact .inl (by assumption))) (fun cdv A outer s H E hr hg=>(aah (abu (i:=4) aay.nd rfl (Or.inr rfl) (aaf G__law_mixed (hr.mono (by decide)) hg (tkOf rfl rfl rfl rfl) (adf T) (by rfl) T.m__law_mixed T.F__law_mixed.kp (aaa (aac (pv 0)) (aaa (ahY rfl (by rfl) T.n_list (by rfl) T.n_range (aac (pv 2))) aab))))
      (aah (abu (i:=5) aay.nd rfl (Or.inr rfl) (aaj cr_sortedS ajW (by rfl) T.n_sorted (by decide +kernel) (aaa (agr (aad (pv 1)) ade (adc (aac (pv 2)))) aab)))
      (aai (aao (ab1 (aaa (acU (own:=[("_law_k",6)]) rfl aay.nd (acf (by rfl) T.n_range (aaa (aaj call_len aaR (by rfl) T.n_len PySem.boot_len (aaa (aad (pv 5)) aab)) aab)) (blkOk_by (own:=[("_law_k",6)]) (N:=acp) (sc:=(defScope aaq)) (by decide +kernel)) (fun _ _ _ _ _=>(aam (i:=6) aay.nd rfl (Or.inl rfl))) (fun _ _ _ _ _=>aaJ) (fun _ _ _ _ _=>(ab1 (aaa (aan ix_seq aag (aad (pv 5)) (aac (pv 6)) (fun _ _=>rfl)) (aaa (aan ix_seq aag (aad (pv 4)) (aac (pv 6)) (fun _ _=>rfl)) aab))))) (aaa (acU (own:=[("_law_layer",7)]) rfl aay.nd (acf (by rfl) T.n_range (aaa (aac (pv 3)) aab)) (blkOk_by (own:=[("_law_layer",7)]) (N:=acp) (sc:=(defScope aaq)) (by decide +kernel)) (fun _ _ _ _ _=>(aam (i:=7) aay.nd rfl (Or.inl rfl))) (fun _ _ _ _ _=>aaJ) (fun _ _ _ _ _=>(aaf G__law_table (hr.mono (by decide)) hg ac4 (agu T) (by rfl) T.m__law_table T.F__law_table.kp (aaa (aac (pv 0)) (aaa (aac (pv 2)) aab))))) aab)))))))) (fun args Q E h=>?_)
  obtain ⟨x,y,z,rfl,h⟩:=h
  obtain ⟨ns,n,m,rfl,rfl,rfl,nl,nnd,nnm,n1,n5,m2,h⟩:=h
  have hz:szl=16777216:=rfl
  refine acV (fun d=>∃ qs:List Nat,d=.lst (qs.map fun (p:Nat)=>.int (p:Int))/\qs.length=n/\qs.Nodup/\∀ p∈qs,p < n) (fun Q hQ=>?_) (fun x hx=>?_)
  · refine ⟨by omega,by omega,?_⟩
    refine ⟨rfl,rfl,_,rfl,_,rfl,by rw [abp];omega,fun es hp=>hQ _ ?_⟩
    obtain ⟨qs,rfl,hc⟩:=ad2 (f:=fun (p:Nat)=>D.int (p:Int)) (P:=fun p=>p < n) (es:=es) fun x hx=>by
      obtain ⟨i,hi,rfl⟩:=ab6 (hp.mem_iff.mp hx)
      exact ⟨i,by rw [Int.zero_add],by omega⟩
    refine ⟨qs,rfl,?_,aeU (f:=fun (p:Nat)=>D.int (p:Int)) (hp.nodup_iff.mpr (aeW _ _)),hc⟩
    have:=hp.length_eq
    rw [List.length_map,abp] at this
    omega
  obtain ⟨qs,rfl,ql,qnd,qlt⟩:=hx
  refine aiN (s':=[some .src,some (.d (.lst (ns.map .str))),some (.d (.int n)),some (.d (.int m)),some (.d (.lst (qs.map fun (p:Nat)=>.int (p:Int)))),none,none,none]) (fun ds=>∃ ks:List Str,ds=ks.map .str/\ks.length<=n/\ks.length<=5/\ks.Nodup/\sortedS ks=true/\∀ s∈ks,nameOk s=true) (fun Q hQ=>?_) (fun ds hds=>?_)
  · refine ajC (ds:=ns.map .str) rfl ?_
    rw [ac3,<- List.map_take]
    refine and rfl (als _) (by rw [List.length_take];omega) (fun ys hp hso=>hQ _ ⟨ys,rfl,?_,?_,?_,hso,fun s hs=>?_⟩)
    · rw [hp.length_eq,List.length_take];omega
    · rw [hp.length_eq,List.length_take];omega
    · exact hp.nodup_iff.mpr (nnd.sublist (List.take_sublist _ _))
    · exact nnm s (List.mem_of_mem_take (hp.mem_iff.mp hs))
  obtain ⟨ks,rfl,kn,k5,knd,kso,knm⟩:=hds
  obtain ⟨pl,hpl⟩:=aon ks qs knd (by omega)
  refine abk rfl ?_
  rw [List.length_map]
  refine ac2 (by omega) (by omega) ?_
  refine afh (fun k d=>∀ s,ks[k]?=some s->d=.tup [.str s,.int (pl s)]) _ (by omega) (fun k hk M A hM=>?_) (fun g hg=>?_)
  · refine brT ?_
    have ek:ks[k]?=some ks[k]:=List.getElem?_eq_getElem hk
    refine acB (ds:=ks.map .str) rfl (agH ek) ?_
    refine acB (ds:=qs.map fun (p:Nat)=>.int (p:Int)) rfl (agH (hpl k _ ek)) ?_
    refine adh rfl rfl (hM _ fun s es=>?_)
    rw [ek] at es;cases es;rfl
  · refine ac2 (by omega) (by omega) ?_
    refine afh (fun _ d=>∃ f,TabQ n f/\d=tabD n f) _ (by omega) (fun k hk M A hM=>?_) (fun gs hgs=>?_)
    · refine brT ?_
      exact ⟨rfl,rfl,_,rfl,n,rfl,n5,fun f hf=>hM _ ⟨f,hf,rfl⟩⟩
    · obtain ⟨fs,e,hfs⟩:=ad2 (f:=tabD n) (P:=TabQ n) (es:=(List.range m).map gs) fun x hx=>by
        obtain ⟨i,hi,rfl⟩:=List.mem_map.mp hx
        obtain ⟨f,h1,h2⟩:=hgs i (List.mem_range.mp hi)
        exact ⟨f,h2,h1⟩
      have e1:(List.range ks.length).map g=ks.map fun s=>D.tup [.str s,.int (pl s)]:=amY fun k s hk=>hg k (List.getElem?_eq_some_iff.mp hk).1 s hk
      have fl:fs.length=m:=by
        have:=congrArg List.length e
        rw [List.length_map,List.length_map,List.length_range] at this
        omega
      have key:=h ks pl fs ⟨knd,k5,knm,fun s hs=>?_,fun s hs y hy q=>?_⟩ kso fl hfs
      · refine adh (ds:=[.lst ((List.range ks.length).map g),.lst ((List.range m).map gs)]) rfl rfl ?_
        rw [e1,e];exact key
      · obtain ⟨k,hk⟩:=List.getElem?_of_mem hs
        exact qlt _ (List.mem_of_getElem? (hpl k s hk))
      · obtain ⟨k,hk⟩:=List.getElem?_of_mem hs
        obtain ⟨j,hj⟩:=List.getElem?_of_mem hy
        have a:=hpl k s hk
        have b:=hpl j y hj
        rw [q] at a
        have:k=j:=by
          have ka:=(List.getElem?_eq_some_iff.mp a).1
          exact (List.getElem?_inj ka qnd).mp (a.trans b.symm)
        subst this
        rw [hk] at hj;cases hj;rfl
theorem ah7 {n:Nat} {g:Nat->Nat->Rat} (n1:1<=n) (n9:n<=9) (h:GoodF n g/\∀ i j,i < n->j < n->Nb 1900 (g i j)):TabOk n (fun i j=>rD (g i j)) g:=⟨n1,n9,fun _ _ _ _=>aoe _,fun _ _ _ _=>aiS _,h.2,h.1⟩
theorem alO {n m:Nat} {F:Nat->Nat->Nat->Rat}:(tabsF n m F).length=m + 1:=by rw [List.length_map,List.length_range]
abbrev aei:List Str:=["_law_plan","_law_tables","_law_table_here","_law_row"]
theorem acJ:FnScope aei ["_law_plan"] (defScope abM):=⟨rfl,rfl,rfl,by decide +kernel,rfl,by decide +kernel,by decide +kernel⟩
theorem ahL (T:Tx P K mg base a d):FnG P w K mg base 9 (a abV) (d abV) ["_law_plan"] (sp1 fun x Q _=>∃ (n m:Nat) (ks:List Str) (pl:Str->Nat) (F:Nat->Nat->Nat->Rat),x=planF n m ks pl F/\1<=n/\n<=9/\m<=1/\NmOk n ks pl/\(∀ k,k<=m->GoodF n (F k)/\∀ i j,i < n->j < n->Nb 1900 (F k i j))/\∀ ys:List Str,ys.Perm ks->sortedS ys=true->Q (.d (wld K (tabsF n m F) (nmD ys pl)))):=by
  have G_World___init__:FnR P w K mg base 7 (a aal) (d aal) ["self","names","foot","cart"] (upIn K (He.ga K "World") fun args Q E=>∃ nm:D,∃ ft:D,∃ ct:D,args=[.d nm,.d ft,.d ct]/\(∃ (n:Nat) (e:Nat->Nat->D) (f:Nat->Nat->Rat) (ks:List Str) (val:Str->D) (fs:List (Nat->Nat->Rat)),nm=.dk (kvD ks val)/\ft=tabX n e/\TabOk n e f/\((ct=.non/\fs=[])\/∃ (e':Nat->Nat->D) (f':Nat->Nat->Rat),ct=tabX n e'/\TabOk n e' f'/\fs=[f'])/\NmDo K n ks val (fun ys=>Q [("own_tables",.lst (tabL n f::fs.map (tabL n))),("own_names",.dk (kvD ys val))]) E)):=acA T
  refine ac6 T.F__law_made acJ (fun cdv A outer s H E hr hg=>(aah (afj (i:=1) (own:=[("_law_table_here",2)]) rfl acJ.nd rfl rfl (sw_true rfl rfl rfl (by decide +kernel)) (abX (aan ix_seq aag (aad (pv 0)) aae (fun _ _=>rfl))) (blkOk_by (own:=[("_law_table_here",2)]) (N:=aei) (sc:=(defScope abM)) (by decide +kernel)) (fun _ _ _ _ _=>(aam (i:=2) acJ.nd rfl (Or.inl rfl))) (fun _ _ _ _ _=>aaJ) (fun _ _ _ _ _=>(acU (own:=[("_law_row",3)]) rfl acJ.nd (abX (aac (pv 2))) (blkOk_by (own:=[("_law_row",3)]) (N:=aei) (sc:=_) (by kernel_rfl)) (fun _ _ _ _ _=>(aam (i:=3) acJ.nd rfl (Or.inl rfl))) (fun _ _ _ _ _=>aaJ) (fun _ _ _ _ _=>(afl call_list_of aiP (by rfl) T.n_list (by decide +kernel) (aaa (aad (pv 3)) aab))))))
      (aai (aao (ajg T.mk_World G_World___init__ (hr.mono (by decide)) hg (tkOf rfl rfl rfl rfl) (acq T) rfl (by rfl) T.m_World (aaa (al4 rfl (by rfl) T.n_dict (aaa (aan ix_seq aag (aad (pv 0)) aae (fun _ _=>rfl)) aab)) (aaa (aan ix_seq aag (aad (pv 1)) aae (fun _ _=>rfl)) aab)) (ak7 (aeH (aaU (aba hr.units) acH (aaj call_len aaR (by rfl) T.n_len PySem.boot_len (aaa (aad (pv 1)) aab)) aae (nomark _)) (aan ix_seq aag (aad (pv 1)) aae (fun _ _=>rfl)) aeG) amx)))))) (fun x Q E h=>?_)
  replace h:∃ (n m:Nat) (ks:List Str) (pl:Str->Nat) (F:Nat->Nat->Nat->Rat),x=planF n m ks pl F/\1<=n/\n<=9/\m<=1/\NmOk n ks pl/\(∀ k,k<=m->GoodF n (F k)/\∀ i j,i < n->j < n->Nb 1900 (F k i j))/\∀ ys:List Str,ys.Perm ks->sortedS ys=true->Q (.d (wld K (tabsF n m F) (nmD ys pl))):=h
  obtain ⟨n,m,ks,pl,F,rfl,n1,n9,m1,nk,hF,h⟩:=h
  have hz:szl=16777216:=rfl
  refine aev (tabsF n m F) (fun Q hQ=>?_) ?_
  · refine abl rfl (abm ?_)
    refine ada _ (fun k=>tabL n (F k)) _ (by omega) (fun k hk M A mm=>?_) hQ
    refine brT ?_
    refine abm ?_
    refine ada _ (fun i=>rowX n fun j=>rD (F k i j)) [some (.d (planF n m ks pl F)),none,some (.d (tabL n (F k))),none] (by omega) (fun i hi M' A' mm'=>?_) mm
    refine brT ?_
    exact akI (ds:=(List.range n).map fun j=>rD (F k i j)) rfl mm'
  refine abl rfl ?_
  refine anq rfl (aiX pl ks) ?_
  rw [akx nk.nd]
  have sp:=acY n m F
  refine acB (ds:=tabsF n m F) (d:=tabL n (F 0)) rfl (by rw [sp];exact ahd) ?_
  refine abk (ds:=tabsF n m F) rfl ?_
  refine acC ?_
  rw [alO]
  match m,m1,hF,h with
  | 0,_,hF,h=>
    refine brF ?_
    exact ⟨rfl,rfl,_,_,_,rfl,n,_,F 0,ks,_,[],rfl,rfl,ah7 n1 n9 (hF 0 (by omega)),.inl ⟨rfl,rfl⟩,afP nk fun ys hp hs=>h ys hp hs⟩
  | 1,_,hF,h=>
    refine brT ?_
    refine acB (ds:=[tabL n (F 0),tabL n (F 1)]) rfl rfl ?_
    exact ⟨rfl,rfl,_,_,_,rfl,n,_,F 0,ks,_,[F 1],rfl,rfl,ah7 n1 n9 (hF 0 (by omega)),.inr ⟨_,F 1,rfl,ah7 n1 n9 (hF 1 (by omega)),rfl⟩,afP nk fun ys hp hs=>h ys hp hs⟩
theorem rng2 {m:Nat} (h:m<=1) {α:Type} (f:Nat->α):((List.range 2).map f).take (m + 1)=(List.range (m + 1)).map f:=by
  match m,h with
  | 0,_=>rfl
  | 1,_=>rfl
theorem lay_n {k m:Nat} (hk:k < m + 1) (hm:m<=1):layB (m + 1) (.str (if k=0 then "foot" else "cart"))=true/\layIx (.str (if k=0 then "foot" else "cart"))=k:=by
  match k,m,hk,hm with
  | 0,0,_,_=>exact ⟨by decide +kernel,by decide +kernel⟩
  | 0,1,_,_=>exact ⟨by decide +kernel,by decide +kernel⟩
  | 1,1,_,_=>exact ⟨by decide +kernel,by decide +kernel⟩
  | 1,0,h,_=>exact absurd h (by decide)
  | k + 2,m,h,hm=>exact absurd h (by omega)
abbrev aeh:List Str:=["_law_world","_law_tables","_law_layer","_law_name"]
theorem acI:FnScope aeh ["_law_world"] (defScope abv):=⟨rfl,rfl,rfl,by decide +kernel,rfl,by decide +kernel,by decide +kernel⟩
theorem ahH (T:Tx P K mg base a d):FnG P w K mg base 7 (a abR) (d abR) ["_law_world"] (sp1 fun me Q _=>∃ (n m:Nat) (F:Nat->Nat->Nat->Rat) (ys:List Str) (pl:Str->Nat),me=wld K (tabsF n m F) (nmD ys pl)/\n<=9/\m<=1/\ys.length<=5/\sortedS ys=true/\Q (.d (planF n m ys pl F))):=by
  have G_World_layers:FnG P w K mg base 1 (a aaA) (d aaA) ["self"] (sp1 fun me Q _=>∃ (tabs:List D) (nm:List (Key × D)),me=wld K tabs nm/\Q (.d (.int tabs.length))):=adI T
  have G_World_names:FnG P w K mg base 1 (a abh) (d abh) ["self"] (sp1 fun me Q _=>∃ (tabs:List D) (ks:List Str) (val:Str->D),me=wld K tabs (kvD ks val)/\ks.length < 64/\∀ ys:List Str,ys.Perm ks->sortedS ys=true->Q (.own (.lst (ys.map .str)))):=agn T
  have G_World_place:FnG P w K mg base 3 (a abg) (d abg) ["self","name"] (sp2 fun me x Q E=>∃ (tabs:List D) (ks:List Str) (val:Str->D),me=wld K tabs (kvD ks val)/\kindD x=true/\(hasB (kvD ks val) x=false->E (.ref (He.ga K "UnknownName")) (ab3 x))/\∀ z∈ks,x=.str z->Q (.d (val z))):=agm T
  have G_World_table:FnG P w K mg base 5 (a abf) (d abf) ["self","layer"] (sp2 fun me x Q E=>∃ (n:Nat) (f:Nat->Nat->Rat) (fs:List (Nat->Nat->Rat)) (nm:List (Key × D)),me=wld K (tabL n f::fs.map (tabL n)) nm/\n<=9/\fs.length<=1/\kindD x=true/\(layB (fs.length + 1) x=false->E (.ref (He.ga K "InvalidLayer")) (aaM x))/\(layB (fs.length + 1) x=true->∀ g,(f::fs)[layIx x]?=some g->Q (.own (.lst ((List.range n).map fun i=>rowX n fun j=>rD (g i j)))))):=agl T
  refine ac6 T.F__law_told acI (fun cdv A outer s H E hr hg=>(aah (afj (i:=1) (own:=[("_law_layer",2)]) rfl acI.nd rfl rfl (sw_true rfl rfl rfl (by decide +kernel)) (abX (agr (adP (aaa ac7 (aaa ac7 aab))) ade (adc (ag9 (aac (pv 0)) T.cl_World T.pr_World_layers G_World_layers (hr.mono (by decide)) hg (adR T))))) (blkOk_by (own:=[("_law_layer",2)]) (N:=aeh) (sc:=(defScope abv)) (by decide +kernel)) (fun _ _ _ _ _=>(aam (i:=2) acI.nd rfl (Or.inl rfl))) (fun _ _ _ _ _=>aaJ) (fun _ _ _ _ _=>(aha (aac (pv 0)) T.cl_World T.me_World_table G_World_table (hr.mono (by decide)) hg ac4 (af2 T) (aaa (aac (pv 2)) aab))))
      (aai (aao (ab1 (aaa (acU (own:=[("_law_name",3)]) rfl acI.nd (abX (al2 (aac (pv 0)) T.cl_World T.me_World_names G_World_names (hr.mono (by decide)) hg (tkOf rfl rfl rfl rfl) (af4 T))) (blkOk_by (own:=[("_law_name",3)]) (N:=aeh) (sc:=(defScope abv)) (by decide +kernel)) (fun _ _ _ _ _=>(aam (i:=3) acI.nd rfl (Or.inl rfl))) (fun _ _ _ _ _=>aaJ) (fun _ _ _ _ _=>(ab1 (aaa (aac (pv 3)) (aaa (aha (aac (pv 0)) T.cl_World T.me_World_place G_World_place (hr.mono (by decide)) hg ac4 (af3 T) (aaa (aac (pv 3)) aab)) aab))))) (aaa (aac (pv 1)) aab))))))) (fun me Q E h=>?_)
  replace h:∃ (n m:Nat) (F:Nat->Nat->Nat->Rat) (ys:List Str) (pl:Str->Nat),me=wld K (tabsF n m F) (nmD ys pl)/\n<=9/\m<=1/\ys.length<=5/\sortedS ys=true/\Q (.d (planF n m ys pl F)):=h
  obtain ⟨n,m,F,ys,pl,rfl,n9,m1,y5,yso,h⟩:=h
  have hz:szl=16777216:=rfl
  have tl:(tabsF n m F).length=m + 1:=by rw [List.length_map,List.length_range]
  have S0:(F 0::(List.range m).map fun k=>F (k + 1))=(List.range (m + 1)).map F:=(ahy F m).symm
  refine aev (tabsF n m F) (fun Q hQ=>?_) ?_
  · refine afS rfl rfl ?_
    refine ⟨rfl,_,rfl,_,_,rfl,?_⟩
    rw [tl]
    refine ajC (ds:=[.str "foot",.str "cart"]) rfl ?_
    rw [ac3,show ([.str "foot",.str "cart"]:List D)=(List.range 2).map (fun k=>D.str (if k=0 then "foot" else "cart")) from rfl,rng2 m1]
    refine abm ?_
    refine ada _ (fun k=>tabL n (F k)) [some (.d (wld K (tabsF n m F) (nmD ys pl))),none,none,none] (by omega) (fun k hk M A mm=>?_) hQ
    refine brT ?_
    obtain ⟨la,lb⟩:=lay_n hk m1
    refine ⟨rfl,rfl,rfl,rfl,_,_,rfl,n,F 0,(List.range m).map (fun k=>F (k + 1)),nmD ys pl,by rw [acY],n9,by rw [List.length_map,List.length_range];exact m1,rfl,(fun z=>?_),(fun _ g eg=>?_)⟩
    · rw [List.length_map,List.length_range,la] at z;cases z
    · rw [lb,S0,List.getElem?_map,List.getElem?_range hk] at eg
      cases eg
      exact mm
  refine ⟨rfl,rfl,rfl,rfl,_,rfl,_,ys,(fun z=>.int (pl z)),rfl,by omega,fun zs hp hs=>?_⟩
  rw [aet hs yso hp]
  refine abm ?_
  refine adb (fun d=>match d with | .str z=>.tup [.str z,.int (pl z)] | _=>.non) _ (by rw [List.length_map];omega) (fun d hd M A mm=>?_) ?_
  · obtain ⟨z,hz1,rfl⟩:=List.mem_map.mp hd
    refine brT ?_
    refine ⟨rfl,rfl,rfl,rfl,_,_,rfl,_,ys,(fun z=>.int (pl z)),rfl,rfl,(fun hh=>?_),fun y hy e=>?_⟩
    · have:(valD (kvD ys fun z=>.int (pl z)) (.inr z)).isSome=false:=hh
      rw [aeV,if_pos hz1] at this;cases this
    · cases e
      exact adh rfl rfl mm
  · rw [List.map_map]
    exact adh rfl rfl h
abbrev aio:List Str:=["_law_world","_law_some"]
theorem ahv:FnScope aio ["_law_world","_law_some"] (defScope acb):=⟨rfl,rfl,rfl,by decide +kernel,rfl,by decide +kernel,by decide +kernel⟩
theorem ahK (T:Tx P K mg base a d):FnG P w K mg base 14 (a abU) (d abU) ["_law_world","_law_some"] (sp2 fun me so Q E=>∃ xs:List D,so=.lst xs/\xs.length<=4/\pPart K me (.tup xs) Q E):=by
  have G_World_part:FnV P w K mg base 12 (a aci) (spV 1 (fun args Q E=>∃ me:D,∃ t:D,args=[.d me,.d t]/\(pPart K me t Q E))):=aeA T
  refine adi T.F__law_part ahv (fun cdv A outer s H E hr hg=>(aah (acT (aaU (aba hr.units) acH (aaj call_len aaR (by rfl) T.n_len PySem.boot_len (aaa (aad (pv 1)) aab)) aae (nomark _)) (aai (aao (ala (aac (pv 0)) T.cl_World T.me_World_part G_World_part (hr.mono (by decide)) hg (tkOf rfl rfl rfl rfl)))) abD)
      (aah (acT (aaU (aba hr.units) acH (aaj call_len aaR (by rfl) T.n_len PySem.boot_len (aaa (aad (pv 1)) aab)) aae (nomark _)) (aai (aao (adY (aac (pv 0)) T.cl_World T.me_World_part G_World_part (hr.mono (by decide)) hg (tkOf rfl rfl rfl rfl) (aaa (aan ix_seq aag (aad (pv 1)) aae (fun _ _=>rfl)) aab)))) abD)
      (aah (acT (aaU (aba hr.units) acH (aaj call_len aaR (by rfl) T.n_len PySem.boot_len (aaa (aad (pv 1)) aab)) aae (nomark _)) (aai (aao (adY (aac (pv 0)) T.cl_World T.me_World_part G_World_part (hr.mono (by decide)) hg (tkOf rfl rfl rfl rfl) (aaa (aan ix_seq aag (aad (pv 1)) aae (fun _ _=>rfl)) (aaa (aan ix_seq aag (aad (pv 1)) aae (fun _ _=>rfl)) aab))))) abD)
      (aai (aao (aeH (aaU (aba hr.units) acH (aaj call_len aaR (by rfl) T.n_len PySem.boot_len (aaa (aad (pv 1)) aab)) aae (nomark _)) (adY (aac (pv 0)) T.cl_World T.me_World_part G_World_part (hr.mono (by decide)) hg (tkOf rfl rfl rfl rfl) (aaa (aan ix_seq aag (aad (pv 1)) aae (fun _ _=>rfl)) (aaa (aan ix_seq aag (aad (pv 1)) aae (fun _ _=>rfl)) (aaa (aan ix_seq aag (aad (pv 1)) aae (fun _ _=>rfl)) aab)))) (adY (aac (pv 0)) T.cl_World T.me_World_part G_World_part (hr.mono (by decide)) hg (tkOf rfl rfl rfl rfl) (aaa (aan ix_seq aag (aad (pv 1)) aae (fun _ _=>rfl)) (aaa (aan ix_seq aag (aad (pv 1)) aae (fun _ _=>rfl)) (aaa (aan ix_seq aag (aad (pv 1)) aae (fun _ _=>rfl)) (aaa (aan ix_seq aag (aad (pv 1)) aae (fun _ _=>rfl)) aab)))))))))))) (fun me so Q E h=>?_)
  replace h:∃ xs:List D,so=.lst xs/\xs.length<=4/\pPart K me (.tup xs) Q E:=h
  obtain ⟨xs,rfl,l4,h⟩:=h
  obtain ⟨tabs,nm,rfl⟩:∃ tabs nm,me=wld K tabs nm:=by
    obtain ⟨n,m,F,ys,pl,xs,e,_⟩:=h
    exact ⟨_,_,e⟩
  match xs,l4,h with
  | [],_,h=>exact abk rfl (acC (brT ⟨rfl,rfl,[_],[],rfl,rfl,Nat.le_of_ble_eq_true rfl,_,_,rfl,h⟩))
  | [x0],_,h=>
    refine abk rfl (acC (brF ?_))
    refine abk rfl (acC (brT ⟨rfl,rfl,?_⟩))
    refine acB rfl ahd ?_
    exact ⟨[_],[x0],rfl,rfl,Nat.le_of_ble_eq_true rfl,_,_,rfl,h⟩
  | [x0,x1],_,h=>
    refine abk rfl (acC (brF ?_))
    refine abk rfl (acC (brF ?_))
    refine abk rfl (acC (brT ⟨rfl,rfl,?_⟩))
    refine acB rfl rfl (acB rfl rfl ?_)
    exact ⟨[_],[x0,x1],rfl,rfl,Nat.le_of_ble_eq_true rfl,_,_,rfl,h⟩
  | [x0,x1,x2],_,h=>
    refine abk rfl (acC (brF ?_))
    refine abk rfl (acC (brF ?_))
    refine abk rfl (acC (brF ?_))
    refine abk rfl (acC (brT ⟨rfl,rfl,?_⟩))
    refine acB rfl rfl (acB rfl rfl (acB rfl rfl ?_))
    exact ⟨[_],[x0,x1,x2],rfl,rfl,Nat.le_of_ble_eq_true rfl,_,_,rfl,h⟩
  | [x0,x1,x2,x3],_,h=>
    refine abk rfl (acC (brF ?_))
    refine abk rfl (acC (brF ?_))
    refine abk rfl (acC (brF ?_))
    refine abk rfl (acC (brF ⟨rfl,rfl,?_⟩))
    refine acB rfl rfl (acB rfl rfl (acB rfl rfl (acB rfl rfl ?_)))
    exact ⟨[_],[x0,x1,x2,x3],rfl,rfl,Nat.le_of_ble_eq_true rfl,_,_,rfl,h⟩
  | _::_::_::_::_::_,l4,_=>exact absurd l4 (by simp)
end
section
variable {P:Program} {w:World} {K:PySem.W.Frag} {mg:Str->Option Value} {base:Heap} {a:Nat->Addr} {d:Nat->FuncData}
theorem akt {z:Str} (h:nameOk z=true):okS z:=fun c hc=>by
  unfold nameOk at h
  rw [Bool.and_eq_true] at h
  exact aig "abcdefghijklmnopqrstuvwxyz" c (of_decide_eq_true (List.all_eq_true.mp h.2 c hc))
theorem aiM {ks:List Str} {pl:Str->Nat} {n:Nat} (h:NmOk n ks pl) (hn:n<=9):Sm 267 2 2000 (.lst (ks.map fun s=>.tup [.str s,.int (pl s)])):=
  (aeu (afC (m:=5) (fun x hx=>by
    obtain ⟨z,hz,rfl⟩:=List.mem_map.mp hx
    have l:=agU (h.nm z hz)
    have p:=h.lt z hz
    have i0:Sm 267 0 268 (.int (pl z:Int)):=agA (Nat.lt_of_le_of_lt (show (pl z:Int).natAbs<=10 by omega) (Nat.lt_of_lt_of_le (by decide:10 < 10 ^ 2) (Nat.pow_le_pow_right (by decide) (by decide))))
    exact aiL (aaW (ae1 (m:=5) (akt (h.nm z hz)) l) (aaW i0 acu))) (by rw [List.length_map];exact h.l5))).mono (by decide) (by decide)
theorem alu {n m:Nat} {ks:List Str} {pl:Str->Nat} {F:Nat->Nat->Nat->Rat} (h:NmOk n ks pl) (hn:n<=9) (m1:m<=1) (hb:∀ k i j,k<=m->i < n->j < n->Nb 800 (F k i j)):Sm 267 5 110000 (planF n m ks pl F):=
  (aiL (aaW (aiM h hn) (aaW (aeu (aiK hn m1 hb)) acu))).mono (by decide) (by decide)
theorem ahD {qs as:List Nat} {x:D} {r:List D} (h:plD qs=plD as++x::r):∃ (p:Nat) (t:List Nat),qs=as++p::t/\x=.int (p:Int):=by
  obtain ⟨l1,l2,rfl,e1,e2⟩:=List.map_eq_append_iff.mp h
  have:l1=as:=List.map_inj_right (fun a b e=>by injection e with e;omega) |>.mp e1
  subst this
  cases l2 with
  | nil=>cases e2
  | cons p t=>
    rw [List.map_cons] at e2
    cases e2
    exact ⟨p,t,rfl,rfl⟩
theorem akj {as bs:List Nat} (h:plD as=plD bs):as=bs:=List.map_inj_right (fun a b e=>by injection e with e;omega) |>.mp h
theorem alL {as t:List Nat} {p:Nat} (h:(as++p::t).Nodup):p∉as:=fun m=>by
  rw [List.nodup_append] at h
  exact h.2.2 p m p (List.mem_cons_self ..) rfl
theorem snoc_at {ps as t:List Nat} {p0 p:Nat} (nd:ps.Nodup) (h:ps++[p0]=as++p::t):p∉as/\p∈ps\/as=ps/\p=p0:=by
  rcases List.eq_nil_or_concat t with rfl | ⟨t',z,rfl⟩
  · obtain ⟨e1,e2⟩:=List.append_inj' h rfl
    cases e2
    exact .inr ⟨e1.symm,rfl⟩
  · have h2:ps++[p0]=(as++p::t')++[z]:=by rw [h];simp
    obtain ⟨e1,_⟩:=List.append_inj' h2 rfl
    subst e1
    exact .inl ⟨alL nd,by simp⟩
theorem akE {g:TDG} {tt:TDT} {te:TD} {vs:List Nat} {Q:DV->DSt->Prop} (keep:D->Bool) (f:D->D) (S:DSt) {ds:List D} (hl:ds.length<=szl)
    (step:∀ d∈ds,∀ (M:D->DSt->Prop) (A:DSt->Prop),(keep d=true->M (f d) S)->(keep d=false->A S)->g d S fun s1=>tt s1 (fun b s2=>Br b (te s2 (fun x s3=>match pubV x with
      | .d y=>M y (wipeD s3 vs)
      | _=>False) fun _ _ _=>False) (A (wipeD s2 vs))) fun _ _ _=>False) (q:Q (.own (.lst ((ds.filter keep).map f))) S):dLcL g tt te vs Q ds [] S:=by
  have go:∀ (dn r:List D),ds=dn++r->dLcL g tt te vs Q r ((dn.filter keep).map f) S:=by
    intro dn r
    induction r generalizing dn with
    | nil=>
      intro e
      rw [List.append_nil] at e
      subst e
      rw [lcL_nil];exact q
    | cons d r ih=>
      intro e
      rw [adV]
      have lt:((dn.filter keep).map f).length < szl:=by
        rw [List.length_map]
        have l1:(dn.filter keep).length<=dn.length:=List.length_filter_le ..
        have l2:=congrArg List.length e
        rw [List.length_append,List.length_cons] at l2
        omega
      have h:=ih (dn++[d]) (by rw [e];simp)
      rw [List.filter_append] at h
      refine step d (by rw [e];simp) (fun y s=>((dn.filter keep).map f).length < szl/\dLcL g tt te vs Q r ((dn.filter keep).map f++[y]) s) (fun s=>dLcL g tt te vs Q r ((dn.filter keep).map f) s) (fun hk=>⟨lt,?_⟩) (fun hk=>?_)
      · rw [List.filter_cons_of_pos hk,List.filter_nil,List.map_append] at h
        exact h
      · rw [List.filter_cons_of_neg (by rw [hk];decide),List.filter_nil,List.append_nil] at h
        exact h
  exact go [] ds rfl
def dupK (qs:List Nat):D->Bool
  | .int k=>decide (qs.getD k.toNat 0∈qs.take k.toNat)
  | _=>false
def atK (qs:List Nat):D->D
  | .int k=>.int (qs.getD k.toNat 0:Nat)
  | d=>d
theorem aiu:∀ (n:Nat) (lo:Int),DL.intsFrom lo n=(List.range n).map fun i:Nat=>D.int (lo + (i:Int))
  | 0,_=>rfl
  | n + 1,lo=>by
    show D.int lo::DL.intsFrom (lo + 1) n=_
    rw [List.range_succ_eq_map,List.map_cons,List.map_map,aiu n (lo + 1)]
    congr 1
    · show D.int lo=D.int (lo + ((0:Nat):Int))
      rw [Int.natCast_zero,Int.add_zero]
    · exact List.map_congr_left fun i _=>by
        show D.int (lo + 1 + (i:Int))=D.int (lo + ((i + 1:Nat):Int))
        congr 1;omega
theorem akS (n:Nat):DL.intsFrom 0 (n + 1)=DL.intsFrom 0 n++[D.int (n:Int)]:=by
  rw [aiu,aiu,List.range_succ,List.map_append]
  congr 1
  show [D.int (0 + (n:Int))]=_
  rw [Int.zero_add]
theorem ajd {qs:List Nat} (nd:qs.Nodup):(DL.intsFrom 0 qs.length).filter (dupK qs)=[]:=by
  rw [List.filter_eq_nil_iff]
  intro d hd
  obtain ⟨i,hi,rfl⟩:=ab6 hd
  rw [Int.zero_add]
  show ¬ decide (qs.getD (i:Int).toNat 0∈qs.take (i:Int).toNat)=true
  rw [Int.toNat_natCast,decide_eq_true_eq]
  intro m
  have e:qs.getD i 0=qs[i]:=by simp [List.getD_eq_getElem?_getD,hi]
  rw [e] at m
  obtain ⟨j,hj,ej⟩:=List.mem_iff_getElem.mp m
  rw [List.length_take] at hj
  rw [List.getElem_take] at ej
  have hj':j < qs.length:=by omega
  have:j=i:=(List.getElem?_inj hj' nd).mp (by rw [List.getElem?_eq_getElem hj',List.getElem?_eq_getElem hi,ej])
  omega
theorem alX {ps:List Nat} {p:Nat} (nd:ps.Nodup) (m:p∈ps):((DL.intsFrom 0 (ps++[p]).length).filter (dupK (ps++[p]))).map (atK (ps++[p]))=[.int (p:Int)]:=by
  have el:(ps++[p]).length=ps.length + 1:=by simp
  have gp:(ps++[p]).getD ps.length 0=p:=by simp [List.getD_eq_getElem?_getD]
  have e1:(DL.intsFrom 0 ps.length).filter (dupK (ps++[p]))=[]:=by
    rw [List.filter_eq_nil_iff]
    intro d hd
    have h0:=List.filter_eq_nil_iff.mp (ajd nd) d hd
    obtain ⟨i,hi,rfl⟩:=ab6 hd
    rw [Int.zero_add] at h0 ⊢
    have h1:¬ decide (ps.getD (i:Int).toNat 0∈ps.take (i:Int).toNat)=true:=h0
    show ¬ decide ((ps++[p]).getD (i:Int).toNat 0∈(ps++[p]).take (i:Int).toNat)=true
    rw [Int.toNat_natCast] at h1 ⊢
    have ea:(ps++[p]).getD i 0=ps.getD i 0:=by simp [List.getD_eq_getElem?_getD,List.getElem?_append_left hi]
    have eb:(ps++[p]).take i=ps.take i:=by rw [List.take_append_of_le_length (by omega)]
    rw [ea,eb];exact h1
  have e2:dupK (ps++[p]) (.int (ps.length:Int))=true:=by
    show decide ((ps++[p]).getD (ps.length:Int).toNat 0∈(ps++[p]).take (ps.length:Int).toNat)=true
    rw [Int.toNat_natCast,gp,List.take_left' rfl]
    exact decide_eq_true m
  rw [el,akS,List.filter_append,e1,List.nil_append,List.filter_cons_of_pos e2,List.filter_nil]
  show [D.int (((ps++[p]).getD (ps.length:Int).toNat 0:Nat):Int)]=_
  rw [Int.toNat_natCast,gp]
theorem amL {b n:Nat} {qs:List Nat} (hb:2<=b) (h:∀ p∈qs,p < n) (hn:n<=9) (hl:qs.length<=9):Sm b 1 (9 * (b + 3) + 3) (.lst (plD qs)):=
  (aeu (afC (m:=9) (fun x hx=>by
    obtain ⟨p,hp,rfl⟩:=List.mem_map.mp hx
    have:=h p hp
    exact agA (Nat.lt_of_lt_of_le (show (p:Int).natAbs < 10 ^ 2 by omega) (Nat.pow_le_pow_right (by decide) hb))) (by rw [List.length_map];exact hl))).mono (by omega) (by omega)
structure OddX (n:Nat) (x:D):Prop where
  k:kindD x=true
  p:∀ p:Nat,p < n->x≠.int (p:Int)
  s:Sm 267 1 2000 x
theorem odd_x {n:Nat} {ks:List Str} {x:D} (n5:n<=5) (hn:∀ z∈ks,nameOk z=true) (h:x∈[D.int (n:Int),.int (-1),.non,.bl true,.str "0",.str "a",.tup [.int 0,.int 1]]++ks.map D.str):OddX n x:=by
  have ib:∀ i:Int,i.natAbs<=10->Sm 267 0 268 (.int i):=fun i hi=>agA (Nat.lt_of_le_of_lt hi (Nat.lt_of_lt_of_le (by decide:10 < 10 ^ 2) (Nat.pow_le_pow_right (by decide) (by decide))))
  simp only [List.mem_append,List.mem_cons,List.not_mem_nil,or_false] at h
  rcases h with (rfl | rfl | rfl | rfl | rfl | rfl | rfl) | h
  · exact ⟨rfl,(fun p hp e=>by injection e with e;omega),(ib _ (by omega)).mono (by decide) (by decide)⟩
  · exact ⟨rfl,(fun p hp e=>by injection e with e;omega),(ib _ (by decide)).mono (by decide) (by decide)⟩
  · exact ⟨rfl,(fun p hp e=>by cases e),an4.mono (by decide) (by decide)⟩
  · exact ⟨rfl,(fun p hp e=>by cases e),sm_bl.mono (by decide) (by decide)⟩
  · exact ⟨rfl,(fun p hp e=>by cases e),(ae1 (m:=2) (aig _) (by decide)).mono (by decide) (by decide)⟩
  · exact ⟨rfl,(fun p hp e=>by cases e),(ae1 (m:=2) (aig _) (by decide)).mono (by decide) (by decide)⟩
  · exact ⟨rfl,(fun p hp e=>by cases e),(aiL (aaW (ib _ (by decide)) (aaW (ib _ (by decide)) acu))).mono (by decide) (by decide)⟩
  · obtain ⟨z,hz,rfl⟩:=List.mem_map.mp h
    exact ⟨rfl,(fun p hp e=>by cases e),(ae1 (m:=5) (akt (hn z hz)) (agU (hn z hz))).mono (by decide) (by decide)⟩
theorem agL {n:Nat} (n1:1<=n) (n9:n<=9):TabOk n (fun _ _=>.int 0) (fun _ _=>0):=
  ⟨n1,n9,fun _ _ _ _=>akg,fun _ _ _ _=>rfl,fun _ _ _ _=>(show Nb 1 (0:Rat) from ⟨by decide,by decide⟩).mono (by decide),⟨fun _ _ _ _=>by decide,fun _ _=>rfl,fun _ _ _ _ _ _=>by grind⟩⟩
theorem amm {n:Nat}:NmOk n [] (fun _=>0):=⟨.nil,by decide,(fun _ h=>by cases h),(fun _ h=>by cases h),(fun _ h=>by cases h)⟩
abbrev aij:List Str:=["_law_script","_law_src","_law_turn","_law_size","_law_plan","_law_world","_law_some","_law_twice","_law_names_here","_law_due","_law_odd","_law_k","_law_name","_law_spot","_law_table_here","_law_pair","_law_x","_law_y"]
theorem abC:FnScope aij ["_law_script"] (defScope adG):=⟨rfl,rfl,rfl,by decide +kernel,rfl,by decide +kernel,by decide +kernel⟩
theorem ags (T:Tx P K mg base a d):Binds K (d abZ) ["_law_script"] []:=ad1 T.F__law_source fun _ _ _ _ _ _ us hl=>match us,hl with | [_],_=>rfl
theorem aoi (T:Tx P K mg base a d):FnR P w K mg base 22 (a ag3) (d ag3) ["_law_script"] (spLaw K):=by
  have G_World___init__:FnR P w K mg base 7 (a aal) (d aal) ["self","names","foot","cart"] (upIn K (He.ga K "World") fun args Q E=>∃ nm:D,∃ ft:D,∃ ct:D,args=[.d nm,.d ft,.d ct]/\(∃ (n:Nat) (e:Nat->Nat->D) (f:Nat->Nat->Rat) (ks:List Str) (val:Str->D) (fs:List (Nat->Nat->Rat)),nm=.dk (kvD ks val)/\ft=tabX n e/\TabOk n e f/\((ct=.non/\fs=[])\/∃ (e':Nat->Nat->D) (f':Nat->Nat->Rat),ct=tabX n e'/\TabOk n e' f'/\fs=[f'])/\NmDo K n ks val (fun ys=>Q [("own_tables",.lst (tabL n f::fs.map (tabL n))),("own_names",.dk (kvD ys val))]) E)):=acA T
  have G_World_part:FnV P w K mg base 12 (a aci) (spV 1 (fun args Q E=>∃ me:D,∃ t:D,args=[.d me,.d t]/\(pPart K me t Q E))):=aeA T
  have G_World_size:FnG P w K mg base 1 (a aaZ) (d aaZ) ["self"] (sp1 fun me Q _=>∃ (n:Nat) (f:Nat->Nat->Rat) (tabs:List D) (nm:List (Key × D)),me=wld K (tabL n f::tabs) nm/\Q (.d (.int n))):=aez T
  have G__law_draw:FnG P w K mg base 1 (a aas) (d aas) ["_law_src","_law_many"] (spDraw):=acM T
  have G__law_made:FnG P w K mg base 9 (a abV) (d abV) ["_law_plan"] (sp1 fun x Q _=>∃ (n m:Nat) (ks:List Str) (pl:Str->Nat) (F:Nat->Nat->Nat->Rat),x=planF n m ks pl F/\1<=n/\n<=9/\m<=1/\NmOk n ks pl/\(∀ k,k<=m->GoodF n (F k)/\∀ i j,i < n->j < n->Nb 1900 (F k i j))/\∀ ys:List Str,ys.Perm ks->sortedS ys=true->Q (.d (wld K (tabsF n m F) (nmD ys pl)))):=ahL T
  have G__law_mixed:FnG P w K mg base 2 (a aaI) (d aaI) ["_law_src","_law_things"] (fun args Q E=>∃ x:D,args=[.src,.d x]/\(∃ ds:List D,x=.lst ds/\ds.length<=1000/\∀ es:List D,es.Perm ds->Q (.d (.lst es)))):=adp T
  have G__law_names:FnG P w K mg base 3 (a abr) (d abr) ["_law_src","_law_many"] (fun args Q E=>∃ x:D,args=[.src,.d x]/\(∃ m:Nat,x=.int m/\m<=26/\∀ ns:List Str,ns.length=m->ns.Nodup->(∀ z∈ns,nameOk z=true)->Q (.own (.lst (ns.map .str))))):=agS T
  have G__law_of:FnG P w K mg base 2 (a ab4) (d ab4) ["_law_src","_law_some"] (spOf):=agB T
  have G__law_part:FnG P w K mg base 14 (a abU) (d abU) ["_law_world","_law_some"] (sp2 fun me so Q E=>∃ xs:List D,so=.lst xs/\xs.length<=4/\pPart K me (.tup xs) Q E):=ahK T
  have G__law_same:FnG P w K mg base 1 (a abS) (d abS) ["_law_found","_law_due"] (spSame):=ahI T
  have G__law_spread_plan:FnG P w K mg base 5 (a aav) (d aav) ["_law_src","_law_names_here","_law_size","_law_layers"] (fun args Q E=>∃ x:D,∃ y:D,∃ z:D,args=[.src,.d x,.d y,.d z]/\(∃ (ns:List Str) (n m:Nat),x=.lst (ns.map .str)/\y=.int n/\z=.int m/\ns.length<=5/\ns.Nodup/\(∀ s∈ns,nameOk s=true)/\1<=n/\n<=5/\m<=2/\∀ (ks:List Str) (pl:Str->Nat) (fs:List (Nat->Nat->Rat)),NmOk n ks pl->sortedS ks=true->fs.length=m->(∀ g∈fs,TabQ n g)->Q (.d (planD n ks pl fs)))):=aeg T
  have G__law_told:FnG P w K mg base 7 (a abR) (d abR) ["_law_world"] (sp1 fun me Q _=>∃ (n m:Nat) (F:Nat->Nat->Nat->Rat) (ys:List Str) (pl:Str->Nat),me=wld K (tabsF n m F) (nmD ys pl)/\n<=9/\m<=1/\ys.length<=5/\sortedS ys=true/\Q (.d (planF n m ys pl F))):=ahH T
  obtain ⟨cc,hcc,hmem⟩:=anc T.F_law (by decide)
  refine anD T.F_law abC (fun vs H Q E h=>?_) (fun cdv hcd A outer s H vs Q E hr hg h=>?_)
  · obtain ⟨c,ns,rfl,_⟩:=h;rfl
  · obtain ⟨c,ns,rfl,hS,hlen,htb,huq,q⟩:=h
    have hcode:cdv=.ref cc:=hcd.symm.trans hcc
    refine ⟨_,pss_cons (ps_set (i:=1) abC.nd rfl (Or.inl rfl) (alF (agh T) (hr.mono (by decide)) hg (by rfl) T.m__law_source T.F__law_source.kp (ags T) (pa_cons (pv 0) pa_nil)))
      (up_ss (fun cls d _ H=>E cls d H) (aah (adO (passes_of rfl) rfl (acf (by rfl) T.n_range (aaa aae aab)) (aam (i:=2) abC.nd rfl (Or.inl rfl)) (aah (abu (i:=3) abC.nd rfl (Or.inl rfl) (adj aae (aaf G__law_draw (hr.mono (by decide)) hg (tkOf rfl rfl rfl rfl) (aar T) (by rfl) T.m__law_draw T.F__law_draw.kp (aaa (aac (pv 1)) (aaa aae aab)))))
      (aah (abu (i:=4) abC.nd rfl (Or.inl rfl) (aaf G__law_spread_plan (hr.mono (by decide)) hg (tkOf rfl rfl rfl rfl) (ad6 T) (by rfl) T.m__law_spread_plan T.F__law_spread_plan.kp (aaa (aac (pv 1)) (aaa (agr (aaf G__law_names (hr.mono (by decide)) hg (tkOf rfl rfl rfl rfl) (agv T) (by rfl) T.m__law_names T.F__law_names.kp (aaa (aac (pv 1)) (aaa aae aab))) ade (adc (aaf G__law_draw (hr.mono (by decide)) hg (tkOf rfl rfl rfl rfl) (aar T) (by rfl) T.m__law_draw T.F__law_draw.kp (aaa (aac (pv 1)) (aaa aae aab))))) (aaa (aac (pv 3)) (aaa (adj aae (aaf G__law_draw (hr.mono (by decide)) hg (tkOf rfl rfl rfl rfl) (aar T) (by rfl) T.m__law_draw T.F__law_draw.kp (aaa (aac (pv 1)) (aaa aae aab)))) aab))))))
      (aah (abu (i:=5) abC.nd rfl (Or.inr rfl) (aaf G__law_made (hr.mono (by decide)) hg (tkOf rfl rfl rfl rfl) (ahi T) (by rfl) T.m__law_made T.F__law_made.kp (aaa (aac (pv 4)) aab)))
      (aah (abu (i:=6) abC.nd rfl (Or.inr rfl) (agr (aaf G__law_mixed (hr.mono (by decide)) hg (tkOf rfl rfl rfl rfl) (adf T) (by rfl) T.m__law_mixed T.F__law_mixed.kp (aaa (aac (pv 1)) (aaa (ahY rfl (by rfl) T.n_list (by rfl) T.n_range (aac (pv 3))) aab))) ade (adc (aaf G__law_draw (hr.mono (by decide)) hg (tkOf rfl rfl rfl rfl) (aar T) (by rfl) T.m__law_draw T.F__law_draw.kp (aaa (aac (pv 1)) (aaa aae aab))))))
      (aah (abu (i:=6) abC.nd rfl (Or.inr rfl) (aeH (DW.dt (ajc (aaU (aey hr.units) ahp (aad (pv 6)) (adP aab) (nomark _)) (ajc (aaU op_lt (aaT fun _ _ _=>.bl _) (aaj call_len aaR (by rfl) T.n_len PySem.boot_len (aaa (aad (pv 6)) aab)) aae (nomark _)) (aiA (aaU (aba hr.units) acH (aaf G__law_draw (hr.mono (by decide)) hg (tkOf rfl rfl rfl rfl) (aar T) (by rfl) T.m__law_draw T.F__law_draw.kp (aaa (aac (pv 1)) (aaa aae aab))) aae (nomark _)))))) (adj (aad (pv 6)) (adP (aaa (aaf G__law_of (hr.mono (by decide)) hg (tkOf rfl rfl rfl rfl) (ael T) (by rfl) T.m__law_of T.F__law_of.kp (aaa (aac (pv 1)) (aaa (aac (pv 6)) aab))) aab))) (aac (pv 6))))
      (aah (ams (i:=6) (afj (i:=7) (own:=[("_law_k",11)]) rfl abC.nd rfl rfl (sw_true rfl rfl rfl (by decide +kernel)) (acf (by rfl) T.n_range (aaa (aaj call_len aaR (by rfl) T.n_len PySem.boot_len (aaa (aad (pv 6)) aab)) aab)) (blkOk_by (own:=[("_law_k",11)]) (N:=aij) (sc:=(defScope adG)) (by decide +kernel)) (fun _ _ _ _ _=>(aam (i:=11) abC.nd rfl (Or.inl rfl))) (fun _ _ _ _ _=>(aiB (aaU adn afE (aan ix_seq aag (aad (pv 6)) (aac (pv 11)) (fun _ _=>rfl)) (agr (aad (pv 6)) ade (adc (aac (pv 11)))) (by rfl)))) (fun _ _ _ _ _=>(aan ix_seq aag (aad (pv 6)) (aac (pv 11)) (fun _ _=>rfl)))))
      (aah (abu (i:=8) abC.nd rfl (Or.inl rfl) (aaj (ajI (DL.Room.u70 hr)) ajX (by rfl) T.n_sorted (by decide +kernel) (aaa (acU (own:=[("_law_name",12),("_law_spot",13)]) rfl abC.nd (abX (aan ix_seq aag (aad (pv 4)) aae (fun _ _=>rfl))) (blkOk_by (own:=[("_law_name",12),("_law_spot",13)]) (N:=aij) (sc:=(defScope adG)) (by decide +kernel)) (fun _ _ _ _ _=>(amy (n:=2) (K:=K) rfl (afk (aam (i:=12) abC.nd rfl (Or.inl rfl)) (afk (aam (i:=13) abC.nd rfl (Or.inl rfl)) ak9)))) (fun _ _ _ _ _=>(aiB (aaU adn afE (aad (pv 13)) (aad (pv 6)) (by rfl)))) (fun _ _ _ _ _=>(ab1 (aaa (aac (pv 12)) (aaa (anO (aad (pv 6)) (aac (pv 13))) aab))))) aab)))
      (aah (abu (i:=9) abC.nd rfl (Or.inl rfl) (ab1 (aaa ac7 (aaa (ab1 (aaa (aac (pv 8)) (aaa (acU (own:=[("_law_table_here",14)]) rfl abC.nd (abX (aan ix_seq aag (aad (pv 4)) aae (fun _ _=>rfl))) (blkOk_by (own:=[("_law_table_here",14)]) (N:=aij) (sc:=(defScope adG)) (by decide +kernel)) (fun _ _ _ _ _=>(aam (i:=14) abC.nd rfl (Or.inr rfl))) (fun _ _ _ _ _=>aaJ) (fun _ _ _ _ _=>(acU (own:=[("_law_x",16)]) rfl abC.nd (abX (aac (pv 6))) (blkOk_by (own:=[("_law_x",16)]) (N:=aij) (sc:=_) (by kernel_rfl)) (fun _ _ _ _ _=>(aam (i:=16) abC.nd rfl (Or.inr rfl))) (fun _ _ _ _ _=>aaJ) (fun _ _ _ _ _=>(acU (own:=[("_law_y",17)]) rfl abC.nd (abX (aac (pv 6))) (blkOk_by (own:=[("_law_y",17)]) (N:=aij) (sc:=_) (by kernel_rfl)) (fun _ _ _ _ _=>(aam (i:=17) abC.nd rfl (Or.inl rfl))) (fun _ _ _ _ _=>aaJ) (fun _ _ _ _ _=>(aan ix_seq aag (aan ix_seq aag (aad (pv 14)) (aac (pv 16)) (fun _ _=>rfl)) (aac (pv 17)) (fun _ _=>rfl)))))))) aab))) aab))))
      (aah (abu (i:=9) abC.nd rfl (Or.inl rfl) (aeH (aaU (aba hr.units) acH (aad (pv 6)) (adP aab) (nomark _)) (ab1 (aaa ac7 (aaa aae aab))) (aeH (aaU (aey hr.units) ahp (aad (pv 7)) (adP aab) (nomark _)) (ab1 (aaa ac7 (aaa (aan ix_seq aag (aad (pv 7)) aae (fun _ _=>rfl)) aab))) (aac (pv 9)))))
      (aah (acT (acQ (acs (aaf G__law_same (hr.mono (by decide)) hg (tkOf rfl rfl rfl rfl) (ads T) (by rfl) T.m__law_same T.F__law_same.kp (aaa (alb T (k:=18) hmem hcode (hr.mono (by decide)) hg (.none rfl rfl (fun _ _ _ _ _ _ _ _=>rfl)) (akH (xs:=[]) (by decide +kernel)) (fun A outer s H E f c' hr hg=>(aaf G__law_told (hr.mono (by decide)) hg (tkOf rfl rfl rfl rfl) (aeN T) (by rfl) T.m__law_told T.F__law_told.kp (aaa (aaf G__law_part (hr.mono (by decide)) hg (tkOf rfl rfl rfl rfl) (ahh T) (by rfl) T.m__law_part T.F__law_part.kp (aaa (aac (pv 5)) (aaa (aac (pv 6)) aab))) aab)))) (aaa (aac (pv 9)) aab))))) (aai (aao ajH)) abD)
      (aah (abu (i:=10) abC.nd rfl (Or.inr rfl) (aaf G__law_of (hr.mono (by decide)) hg (tkOf rfl rfl rfl rfl) (ael T) (by rfl) T.m__law_of T.F__law_of.kp (aaa (aac (pv 1)) (aaa (adj (adP (aaa (aac (pv 3)) (aaa (aoM aae) (aaa aeG (aaa ajH (aaa ac7 (aaa ac7 (aaa (ab1 (aaa aae (aaa aae aab))) aab)))))))) (acU (own:=[("_law_pair",15)]) rfl abC.nd (abX (aan ix_seq aag (aad (pv 4)) aae (fun _ _=>rfl))) (blkOk_by (own:=[("_law_pair",15)]) (N:=aij) (sc:=(defScope adG)) (by decide +kernel)) (fun _ _ _ _ _=>(aam (i:=15) abC.nd rfl (Or.inl rfl))) (fun _ _ _ _ _=>aaJ) (fun _ _ _ _ _=>(aan ix_seq aag (aad (pv 15)) aae (fun _ _=>rfl))))) aab))))
      (aai (acT (DW.dt (afW (acQ (acs (aaf G__law_same (hr.mono (by decide)) hg (tkOf rfl rfl rfl rfl) (ads T) (by rfl) T.m__law_same T.F__law_same.kp (aaa (alb T (k:=18) hmem hcode (hr.mono (by decide)) hg (.none rfl rfl (fun _ _ _ _ _ _ _ _=>rfl)) (akH (xs:=[]) (by decide +kernel)) (fun A outer s H E f c' hr hg=>(adY (aac (pv 5)) T.cl_World T.me_World_part G_World_part (hr.mono (by decide)) hg (tkOf rfl rfl rfl rfl) (aaa aae (aaa (aac (pv 10)) (aaa aeG aab)))))) (aaa (ab1 (aaa ac7 (aaa (aac (pv 10)) aab))) aab))))) (ae4 (acQ (acs (aaf G__law_same (hr.mono (by decide)) hg (tkOf rfl rfl rfl rfl) (ads T) (by rfl) T.m__law_same T.F__law_same.kp (aaa (aaf G__law_told (hr.mono (by decide)) hg (tkOf rfl rfl rfl rfl) (aeN T) (by rfl) T.m__law_told T.F__law_told.kp (aaa (aac (pv 5)) aab)) (aaa (aac (pv 4)) aab)))))))) (aai (aao ajH)) abD))))))))))))))
      (aai (aao (aeI (aba hr.units) acH (ag9 (adY (anL T.mk_World G_World___init__ (hr.mono (by decide)) hg (tkOf rfl rfl rfl rfl) (aeO T) rfl (by rfl) T.m_World (aaa anP (aaa (adw (adP (aaa (adw (adP (aaa aae aab)) aae) aab)) aae) aab))) T.cl_World T.me_World_part G_World_part (hr.mono (by decide)) hg (tkOf rfl rfl rfl rfl) (aaa aae (aaa aae (aaa aae (aaa aae (aaa aae (aaa aae aab))))))) T.cl_World T.pr_World_size G_World_size (hr.mono (by decide)) hg (aeJ T)) aae (nomark _)))))),?_⟩
    refine ⟨.ref c,rfl,c,ns,rfl,hS,hlen,fun H' p c' ms sd ex cp hp hc hm h0 h1=>?_⟩
    refine aor 18 1 rfl rfl q cp hp hc hm h0 h1 (fun q hq=>ex _ _ (htb q hq)) huq ?_
    have hz:szl=16777216:=rfl
    refine aa1 (fun s=>∃ a2 a3 a4 a5 a6 a7 a8 a9 a10,s=[none,some .src,a2,a3,a4,a5,a6,a7,a8,a9,a10,none,none,none,none,none,none,none]) (fun N' hN'=>?_) (fun s hs=>?_)
    · refine ac2 (by decide) (by decide) ?_
      refine adW (fun s=>∃ a2 a3 a4 a5 a6 a7 a8 a9 a10,s=[none,some .src,a2,a3,a4,a5,a6,a7,a8,a9,a10,none,none,none,none,none,none,none]) _ _ ⟨_,_,_,_,_,_,_,_,_,rfl⟩ (fun N d s hN hd hs=>?_) hN'
      obtain ⟨a2,a3,a4,a5,a6,a7,a8,a9,a10,rfl⟩:=hs
      refine acV (fun x=>∃ n:Nat,x=.int n/\1<=n/\n<=5) (fun Q hQ=>?_) (fun x hx=>?_)
      · refine ⟨rfl,rfl,_,rfl,by decide,by decide,fun k h0 h1=>?_⟩
        exact aeD (hQ _ ⟨(1 + k).toNat,by rw [Int.toNat_of_nonneg (by omega)],by omega,by omega⟩)
      obtain ⟨n,rfl,n1,n5⟩:=hx
      refine acV (fun x=>∃ (m:Nat) (ks:List Str) (pl:Str->Nat) (F:Nat->Nat->Nat->Rat),x=planF n m ks pl F/\m<=1/\NmOk n ks pl/\sortedS ks=true/\∀ k,k<=m->TabQ n (F k)) (fun Q hQ=>?_) (fun x hx=>?_)
      · refine ⟨rfl,rfl,_,rfl,3,rfl,by decide,fun ns h2 h3 h4=>?_⟩
        refine ⟨rfl,rfl,_,rfl,by decide,by decide,fun c0 c1 c2=>?_⟩
        refine ajC (ds:=ns.map .str) rfl ?_
        have ek:c0=((c0.toNat:Nat):Int):=by omega
        rw [ek,ac3,<- List.map_take]
        refine ⟨rfl,rfl,_,rfl,by decide,by decide,fun j0 j1 j2=>?_⟩
        refine aeD ?_
        obtain ⟨m,em⟩:∃ m:Nat,1 + j0=((m + 1:Nat):Int):=⟨j0.toNat,by omega⟩
        rw [em]
        have m1:m<=1:=by omega
        refine ⟨rfl,rfl,_,_,_,rfl,ns.take c0.toNat,n,m + 1,rfl,rfl,rfl,by rw [List.length_take];omega,h3.sublist (List.take_sublist _ _),fun s hs=>h4 s (List.mem_of_mem_take hs),n1,by omega,by omega,fun ks pl fs nk kso fl hf=>?_⟩
        obtain ⟨F,rfl⟩:=aoG fl
        have hF:∀ k,k<=m->TabQ n (F k):=fun k hk=>hf _ (List.mem_map.mpr ⟨k,List.mem_range.mpr (by omega),rfl⟩)
        have ep:planD n ks pl ((List.range (m + 1)).map F)=planF n m ks pl F:=by
          show D.tup [_,D.lst (((List.range (m + 1)).map F).map (tabD n))]=D.tup [_,D.lst _]
          rw [List.map_map];rfl
        rw [ep]
        exact hQ _ ⟨m,ks,pl,F,rfl,m1,nk,kso,hF⟩
      obtain ⟨m,ks,pl,F,rfl,m1,nk,kso,hF⟩:=hx
      have gF:∀ k,k<=m->GoodF n (F k)/\∀ i j,i < n->j < n->Nb 1900 (F k i j):=fun k hk=>⟨(hF k hk).gd,fun i j hi hj=>((hF k hk).nb i j hi hj).mono (by decide)⟩
      refine acV (fun x=>x=wld K (tabsF n m F) (nmD ks pl)) (fun Q hQ=>?_) (fun x hx=>?_)
      · refine ⟨rfl,rfl,_,rfl,n,m,ks,pl,F,rfl,n1,by omega,m1,nk,gF,fun ys hp hs=>?_⟩
        rw [aet hs kso hp]
        exact hQ _ rfl
      subst hx
      refine aiN (s':=[none,some .src,some (.d d),some (.d (.int (n:Int))),some (.d (planF n m ks pl F)),some (.d (wld K (tabsF n m F) (nmD ks pl))),a6,a7,a8,a9,a10,none,none,none,none,none,none,none]) (fun ds=>∃ ps:List Nat,ds=plD ps/\ps.Nodup/\(∀ p∈ps,p < n)/\ps.length<=4) (fun Q hQ=>?_) (fun ds hds=>?_)
      · refine ⟨by omega,by omega,?_⟩
        refine ⟨rfl,rfl,_,rfl,_,rfl,by rw [abp];omega,fun es hp=>?_⟩
        refine ⟨rfl,rfl,_,rfl,by decide,by decide,fun c h0 h1=>?_⟩
        obtain ⟨qs,rfl,hc⟩:=ad2 (f:=fun (p:Nat)=>D.int (p:Int)) (P:=fun p=>p < n) (es:=es) fun x hx=>by
          obtain ⟨i,hi,rfl⟩:=ab6 (hp.mem_iff.mp hx)
          exact ⟨i,by rw [Int.zero_add],by omega⟩
        have qnd:qs.Nodup:=aeU (f:=fun (p:Nat)=>D.int (p:Int)) (hp.nodup_iff.mpr (aeW _ _))
        refine ajC rfl ?_
        have ek:c=((c.toNat:Nat):Int):=by omega
        rw [ek,ac3,<- List.map_take]
        exact hQ _ ⟨qs.take c.toNat,rfl,qnd.sublist (List.take_sublist _ _),fun p hp=>hc p (List.mem_of_mem_take hp),by rw [List.length_take];omega⟩
      obtain ⟨ps,rfl,pnd,plt,p4⟩:=hds
      refine aa1 (fun s=>∃ (qs tw:List Nat) (v6:DV),(v6=.own (.lst (plD qs))\/v6=.d (.lst (plD qs)))/\((qs=ps/\tw=[])\/∃ p∈ps,qs=ps++[p]/\tw=[p]/\ps.length < 4)/\s=[none,some .src,some (.d d),some (.d (.int (n:Int))),some (.d (planF n m ks pl F)),some (.d (wld K (tabsF n m F) (nmD ks pl))),some v6,a7,a8,a9,a10,none,none,none,none,none,none,none]) (fun N1 hN1=>?_) (fun s hs=>?_)
      · have hf:N1 [none,some .src,some (.d d),some (.d (.int (n:Int))),some (.d (planF n m ks pl F)),some (.d (wld K (tabsF n m F) (nmD ks pl))),some (.d (.lst (plD ps))),a7,a8,a9,a10,none,none,none,none,none,none,none]:=hN1 _ ⟨ps,[],_,.inr rfl,.inl ⟨rfl,rfl⟩,rfl⟩
        have sh:∃ p,(D.lst (plD ps)).py=some p/\SeqAt.shaped p=true:=(amL (b:=267) (by decide) plt (by omega) (by omega)).sh
        refine afS rfl rfl ?_
        refine ano (n:=true) (d:=.lst (plD ps)) (e:=.lst []) rfl rfl sh (aeu (b:=20) acu).sh ?_
        rw [aiz,ag7]
        cases e:(plD ps).isEmpty with
        | true=>exact brF (brF hf)
        | false=>
          refine brT ?_
          refine abk rfl (acO ?_)
          refine br (fun w=>?_) (fun w=>brF hf)
          refine ⟨rfl,rfl,_,rfl,by decide,by decide,fun c h0 h1=>?_⟩
          refine acC ?_
          refine br (fun w2=>?_) (fun w2=>hf)
          have l0:0 < (plD ps).length:=by
            cases h:plD ps with
            | nil=>rw [h] at e;cases e
            | cons=>simp
          refine ⟨rfl,rfl,_,rfl,(fun o z=>by cases z),l0,(by rw [List.length_map];omega),fun x hx=>?_⟩
          obtain ⟨p,hp,rfl⟩:=List.mem_map.mp hx
          refine afS rfl rfl ?_
          refine amq (ds:=plD ps) (es:=[.int (p:Int)]) rfl rfl (by rw [List.length_map,List.length_singleton];omega) ?_
          refine hN1 _ ⟨ps++[p],[p],_,.inl ?_,.inr ⟨p,hp,rfl,rfl,?_⟩,rfl⟩
          · show DV.own (.lst (plD ps++[.int (p:Int)]))=.own (.lst (List.map (fun p:Nat=>D.int (p:Int)) (ps++[p])))
            rw [List.map_append];rfl
          · have:=of_decide_eq_true w
            rw [List.length_map] at this
            omega
      obtain ⟨qs,tw,v6,h6,hq,rfl⟩:=hs
      have qlt:∀ p∈qs,p < n:=fun p hp=>by
        rcases hq with ⟨rfl,_⟩ | ⟨p0,m0,rfl,_⟩
        · exact plt p hp
        · rcases List.mem_append.mp hp with hp | hp
          · exact plt p hp
          · rw [List.mem_singleton.mp hp];exact plt _ m0
      have q4:qs.length<=4:=by
        rcases hq with ⟨rfl,_⟩ | ⟨p0,m0,rfl,_,h⟩
        · exact p4
        · rw [List.length_append,List.length_singleton];omega
      have etw:((DL.intsFrom 0 qs.length).filter (dupK qs)).map (atK qs)=plD tw:=by
        rcases hq with ⟨rfl,rfl⟩ | ⟨p0,m0,rfl,rfl,_⟩
        · rw [ajd pnd];rfl
        · rw [alX pnd m0];rfl
      have pb:pubSl 6 [none,some .src,some (.d d),some (.d (.int (n:Int))),some (.d (planF n m ks pl F)),some (.d (wld K (tabsF n m F) (nmD ks pl))),some v6,a7,a8,a9,a10,none,none,none,none,none,none,none]=[none,some .src,some (.d d),some (.d (.int (n:Int))),some (.d (planF n m ks pl F)),some (.d (wld K (tabsF n m F) (nmD ks pl))),some (.d (.lst (plD qs))),a7,a8,a9,a10,none,none,none,none,none,none,none]:=by
        rcases h6 with rfl | rfl<;>rfl
      refine aa1 (fun s=>s=[none,some .src,some (.d d),some (.d (.int (n:Int))),some (.d (planF n m ks pl F)),some (.d (wld K (tabsF n m F) (nmD ks pl))),some (.d (.lst (plD qs))),some (.own (.lst (plD tw))),a8,a9,a10,none,none,none,none,none,none,none]) (fun N1 hN1=>?_) (fun s hs=>?_)
      · show dSet _ 7 _ (pubSl 6 _)
        rw [pb]
        refine abk rfl ?_
        rw [List.length_map]
        refine ac2 (by omega) (by omega) ?_
        rw [Int.toNat_natCast]
        refine akE (dupK qs) (atK qs) [none,some .src,some (.d d),some (.d (.int (n:Int))),some (.d (planF n m ks pl F)),some (.d (wld K (tabsF n m F) (nmD ks pl))),some (.d (.lst (plD qs))),a7,a8,a9,a10,none,none,none,none,none,none,none] (by rw [abp];omega) (fun dd hd M A hM hA=>?_) ?_
        · obtain ⟨i,hi,rfl⟩:=ab6 hd
          rw [Int.zero_add] at hM hA ⊢
          have ei:qs[i]?=some qs[i]:=List.getElem?_eq_getElem hi
          have eg:qs.getD (i:Int).toNat 0=qs[i]:=by rw [Int.toNat_natCast];simp [List.getD_eq_getElem?_getD,hi]
          refine acB (ds:=plD qs) rfl (agH ei) ?_
          refine ajC (ds:=plD qs) rfl ?_
          rw [ac3,<- List.map_take]
          refine anm rfl rfl (afg (qs.take i)) ?_
          rw [if_neg (by decide),afU]
          have ed:dupK qs (.int (i:Int))=decide (qs[i]∈qs.take i):=by
            show decide (qs.getD (i:Int).toNat 0∈qs.take (i:Int).toNat)=_
            rw [eg,Int.toNat_natCast]
          refine br (fun w=>?_) (fun w=>hA (ed.trans w))
          refine acB (ds:=plD qs) rfl (agH ei) ?_
          have:=hM (ed.trans w)
          have e5:atK qs (.int (i:Int))=.int ((qs[i]:Nat):Int):=by
            show D.int (qs.getD (i:Int).toNat 0:Nat)=_
            rw [eg]
          rw [e5] at this
          exact this
        · rw [etw]
          exact hN1 _ rfl
      subst hs
      refine ajS ?_
      refine abl rfl (abm ?_)
      obtain ⟨ql,hql⟩:∃ ql:Str->Nat,∀ s,qs.idxOf (pl s)=ql s:=⟨fun s=>qs.idxOf (pl s),fun _=>rfl⟩
      obtain ⟨kz,hkz⟩:∃ kz:List Str,(ks.filter fun s=>decide (pl s∈qs))=kz:=⟨_,rfl⟩
      have kzso:sortedS kz=true:=hkz ▸ aes kso _
      have epk:(ks.map fun s=>D.tup [.str s,.int (pl s)])=ks.map (prD pl):=rfl
      rw [epk]
      refine akE (fun dd=>match dd with | .tup [.str s,_]=>decide (pl s∈qs) | _=>false) (fun dd=>match dd with | .tup [.str s,_]=>prD ql s | _=>dd) [none,some .src,some (.d d),some (.d (.int (n:Int))),some (.d (planF n m ks pl F)),some (.d (wld K (tabsF n m F) (nmD ks pl))),some (.d (.lst (plD qs))),some (.own (.lst (plD tw))),a8,a9,a10,none,none,none,none,none,none,none] (by rw [List.length_map];have:=nk.l5;omega) (fun dd hd M A hM hA=>?_) ?_
      · obtain ⟨z,hz1,rfl⟩:=List.mem_map.mp hd
        refine ⟨rfl,?_⟩
        refine anm rfl rfl (afg qs) ?_
        rw [if_neg (by decide),afU]
        refine br (fun w=>?_) (fun w=>hA w)
        have ep:plD qs=(qs.map fun q:Nat=>(q:Int)).map D.int:=by rw [List.map_map];rfl
        refine ⟨qs.map fun q:Nat=>(q:Int),(pl z:Int),qs.idxOf (pl z),ep,rfl,ai8 (of_decide_eq_true w),?_⟩
        rw [hql]
        exact adh rfl rfl (hM w)
      have en:((ks.map (prD pl)).filter (fun dd=>match dd with | .tup [.str s,_]=>decide (pl s∈qs) | _=>false)).map (fun dd=>match dd with | .tup [.str s,_]=>prD ql s | _=>dd)=kz.map (prD ql):=by
        rw [List.filter_map,List.map_map,<- hkz];rfl
      rw [en]
      refine alS ql kzso rfl ?_
      refine ajT (s':=[none,some .src,some (.d d),some (.d (.int (n:Int))),some (.d (planF n m ks pl F)),some (.d (wld K (tabsF n m F) (nmD ks pl))),some (.d (.lst (plD qs))),some (.own (.lst (plD tw))),some (.own (.lst (kz.map (prD ql)))),a9,a10,none,none,none,none,none,none,none]) rfl ?_
      refine ajS ?_
      obtain ⟨G,hG⟩:∃ G:Nat->Nat->Nat->Rat,∀ k i j,F k (qs.getD i 0) (qs.getD j 0)=G k i j:=⟨fun k i j=>F k (qs.getD i 0) (qs.getD j 0),fun _ _ _=>rfl⟩
      have er:plD qs=(List.range qs.length).map fun i=>D.int (qs.getD i 0:Nat):=amf (fun q:Nat=>D.int (q:Int)) qs
      have pp:∀ {i:Nat},i < qs.length->qs.getD i 0 < n:=fun hi=>adH qlt hi
      refine abl rfl (abm ?_)
      refine ada _ (fun k=>tabL qs.length (G k)) [none,some .src,some (.d d),some (.d (.int (n:Int))),some (.d (planF n m ks pl F)),some (.d (wld K (tabsF n m F) (nmD ks pl))),some (.d (.lst (plD qs))),some (.own (.lst (plD tw))),some (.d (.lst (kz.map (prD ql)))),a9,a10,none,none,none,none,none,none,none] (by omega) (fun k hk M A mm=>?_) ?_
      · refine brT ?_
        refine abm ?_
        rw [er]
        refine ada _ (fun i=>rowX qs.length fun j=>rD (G k i j)) [none,some .src,some (.d d),some (.d (.int (n:Int))),some (.d (planF n m ks pl F)),some (.d (wld K (tabsF n m F) (nmD ks pl))),some (.d (.lst ((List.range qs.length).map fun i=>D.int (qs.getD i 0:Nat)))),some (.own (.lst (plD tw))),some (.d (.lst (kz.map (prD ql)))),a9,a10,none,none,none,some (.d (tabL n (F k))),none,none,none] (by omega) (fun i hi M' A' mm'=>?_) ?_
        · refine brT ?_
          refine abm ?_
          refine ada _ (fun j=>rD (G k i j)) [none,some .src,some (.d d),some (.d (.int (n:Int))),some (.d (planF n m ks pl F)),some (.d (wld K (tabsF n m F) (nmD ks pl))),some (.d (.lst ((List.range qs.length).map fun i=>D.int (qs.getD i 0:Nat)))),some (.own (.lst (plD tw))),some (.d (.lst (kz.map (prD ql)))),a9,a10,none,none,none,some (.d (tabL n (F k))),none,some (.d (.int (qs.getD i 0:Nat))),none] (by omega) (fun j hj M'' A'' mm''=>?_) ?_
          · refine brT ?_
            refine ag0 (x:=fun i j=>rD (F k i j)) (pp hi) (ag1 (pp hj) ?_)
            rw [hG]
            exact mm''
          · exact mm'
        · rw [<- er];exact mm
      refine adh rfl rfl (adh rfl rfl ?_)
      refine an7 (s':=[none,some .src,some (.d d),some (.d (.int (n:Int))),some (.d (planF n m ks pl F)),some (.d (wld K (tabsF n m F) (nmD ks pl))),some (.d (.lst (plD qs))),some (.own (.lst (plD tw))),some (.d (.lst (kz.map (prD ql)))),some (.d (.tup [.str "",planF qs.length m kz ql G])),a10,none,none,none,none,none,none,none]) rfl ?_
      refine aa1 (fun s=>∃ due,(qs=[]->due=.tup [.str "InvalidNumber",.int 0])/\(∀ p,tw=[p]->qs≠[]->due=.tup [.str "InvalidPlace",.int (p:Int)])/\(qs≠[]->tw=[]->due=.tup [.str "",planF qs.length m kz ql G])/\s=[none,some .src,some (.d d),some (.d (.int (n:Int))),some (.d (planF n m ks pl F)),some (.d (wld K (tabsF n m F) (nmD ks pl))),some (.d (.lst (plD qs))),some (.own (.lst (plD tw))),some (.d (.lst (kz.map (prD ql)))),some (.d due),a10,none,none,none,none,none,none,none]) (fun N1 hN1=>?_) (fun s hs=>?_)
      · have sh:∃ p,(D.lst (plD qs)).py=some p/\SeqAt.shaped p=true:=(amL (b:=267) (by decide) qlt (by omega) (by omega)).sh
        have tlt:∀ p∈tw,p < n:=fun p hp=>by
          rcases hq with ⟨_,rfl⟩ | ⟨p0,m0,_,rfl,_⟩
          · cases hp
          · rw [List.mem_singleton.mp hp];exact plt _ m0
        have tl:tw.length<=1:=by rcases hq with ⟨_,rfl⟩ | ⟨p0,m0,_,rfl,_⟩<;>simp
        have sh2:∃ p,(D.lst (plD tw)).py=some p/\SeqAt.shaped p=true:=(amL (b:=267) (by decide) tlt (by omega) (by omega)).sh
        refine afS rfl rfl ?_
        refine ano (n:=false) (d:=.lst (plD qs)) (e:=.lst []) rfl rfl sh (aeu (b:=20) acu).sh ?_
        rw [aiz,ag7]
        cases e:(plD qs).isEmpty with
        | true=>
          have q0:qs=[]:=by
            cases qs with
            | nil=>rfl
            | cons=>cases e
          refine brT (adh rfl rfl ?_)
          exact hN1 _ ⟨_,fun _=>rfl,fun p h h2=>absurd q0 h2,fun h _=>absurd q0 h,rfl⟩
        | false=>
          have q0:qs≠[]:=by
            intro h;subst h;cases e
          refine brF ?_
          refine afS rfl rfl ?_
          refine ano (n:=true) (d:=.lst (plD tw)) (e:=.lst []) rfl rfl sh2 (aeu (b:=20) acu).sh ?_
          rw [aiz,ag7]
          have htw:tw=[]\/∃ p,tw=[p]:=by
            rcases hq with ⟨_,h⟩ | ⟨p0,_,_,h,_⟩
            · exact .inl h
            · exact .inr ⟨p0,h⟩
          rcases htw with h2 | ⟨p,h2⟩
          · have e2:(plD tw).isEmpty=true:=by rw [h2];rfl
            rw [e2]
            refine brF ?_
            exact hN1 _ ⟨.tup [.str "",planF qs.length m kz ql G],(fun h=>absurd h q0),(fun p h=>by rw [h2] at h;cases h),(fun _ _=>rfl),rfl⟩
          · have e2:(plD tw).isEmpty=false:=by rw [h2];rfl
            rw [e2]
            refine brT ?_
            refine acB (ds:=plD tw) (d:=.int (p:Int)) rfl (by rw [h2];rfl) (adh rfl rfl ?_)
            exact hN1 _ ⟨.tup [.str "InvalidPlace",.int (p:Int)],(fun h=>absurd h q0),(fun p' h _=>by rw [h2] at h;cases h;rfl),(fun _ h=>by rw [h2] at h;cases h),rfl⟩
      obtain ⟨due,dA,dB,dC,rfl⟩:=hs
      have i0:∀ i:Int,i.natAbs<=10->Sm 267 0 268 (.int i):=fun i hi=>agA (Nat.lt_of_le_of_lt hi (Nat.lt_of_lt_of_le (by decide:10 < 10 ^ 2) (Nat.pow_le_pow_right (by decide) (by decide))))
      have nkz:NmOk qs.length kz ql:=by
        have h:=akr (ps:=qs) nk
        rw [hkz,show (fun y=>qs.idxOf (pl y))=ql from funext hql] at h
        exact h
      have nbG:∀ k i j,k<=m->i < qs.length->j < qs.length->Nb 800 (G k i j):=fun k i j hk hi hj=>by
        rw [<- hG]
        exact (((hF k hk).ln _ _ (pp hi) (pp hj)).nb (k:=40) (by decide) (by decide) (by decide)).mono (by decide)
      refine aly True (fun N1 hN1=>?_) (fun _=>?_)
      · refine ⟨rfl,rfl,_,_,rfl,plD qs,rfl,by rw [List.length_map];exact q4,?_⟩
        refine ⟨n,m,F,ks,pl,plD qs,rfl,rfl,n1,by omega,m1,nk,kso,by rw [List.length_map];omega,(fun x hx=>?_),gF,(fun e0=>?_),(fun as x r er2 and_ alt nb=>?_),(fun as er2 ane and_ alt=>?_)⟩
        · obtain ⟨p,_,rfl⟩:=List.mem_map.mp hx;rfl
        · have q0:qs=[]:=by
            cases qs with
            | nil=>rfl
            | cons=>cases e0
          obtain rfl:=dA q0
          refine ⟨_,"InvalidNumber",[.int 0],rfl,T.xe_InvalidNumber,rfl,rfl,?_⟩
          refine ⟨rfl,rfl,?_⟩
          refine adF rfl (aaW (ae1 (b:=267) (m:=20) (aig _) (by decide)) (aaW (i0 0 (by decide)) acu)) ?_
          exact abb (brF (hN1 trivial))
        · obtain ⟨p,t,eq,rfl⟩:=ahD er2
          have pn:p < n:=qlt p (by rw [eq];simp)
          rcases hq with ⟨rfl,rfl⟩ | ⟨p0,m0,rfl,rfl,_⟩
          · exact absurd ⟨p,rfl,pn,alL (eq ▸ pnd)⟩ nb
          · rcases snoc_at pnd eq with ⟨z,_⟩ | ⟨rfl,rfl⟩
            · exact absurd ⟨p,rfl,pn,z⟩ nb
            · obtain rfl:=dB p rfl (by simp)
              refine ⟨_,"InvalidPlace",[.int (p:Int)],rfl,T.xe_InvalidPlace,rfl,rfl,?_⟩
              refine ⟨rfl,rfl,?_⟩
              refine adF rfl (aaW (ae1 (b:=267) (m:=20) (aig _) (by decide)) (aaW (i0 p (by omega)) acu)) ?_
              exact abb (brF (hN1 trivial))
        · obtain rfl:=akj er2
          rcases hq with ⟨rfl,rfl⟩ | ⟨p0,m0,rfl,rfl,_⟩
          · obtain rfl:=dC ane rfl
            rw [show (fun k i j=>F k (qs.getD i 0) (qs.getD j 0))=G from funext fun k=>funext fun i=>funext fun j=>hG k i j,show (fun y=>qs.idxOf (pl y))=ql from funext hql,hkz]
            refine ⟨rfl,rfl,_,rfl,qs.length,m,G,kz,ql,rfl,by omega,m1,nkz.l5,kzso,?_⟩
            refine ⟨rfl,rfl,?_⟩
            refine adF rfl (aaW (ae1 (b:=267) (m:=20) (aig _) (by decide)) (aaW (alu nkz (by omega) m1 nbG) acu)) ?_
            exact abb (brF (hN1 trivial))
          · exact absurd m0 (alL (as:=ps) (t:=[]) and_)
      refine acV (OddX n) (fun Q hQ=>?_) (fun odd ho=>?_)
      · refine l_neg (adh rfl rfl (afS rfl rfl ?_))
        refine abl rfl (abm ?_)
        show dLcL _ _ _ _ _ (ks.map (prD pl)) [] _
        refine adb (fun dd=>match dd with | .tup [.str s,_]=>.str s | _=>.non) [none,some .src,some (.d d),some (.d (.int (n:Int))),some (.d (planF n m ks pl F)),some (.d (wld K (tabsF n m F) (nmD ks pl))),some (.d (.lst (plD qs))),some (.own (.lst (plD tw))),some (.d (.lst (kz.map (prD ql)))),some (.d due),a10,none,none,none,none,none,none,none] (by rw [List.length_map];have:=nk.l5;omega) (fun dd hd M A mm=>?_) ?_
        · obtain ⟨z,hz1,rfl⟩:=List.mem_map.mp hd
          exact brT (abl rfl mm)
        · refine amq rfl rfl (by have:=nk.l5;simp;omega) ?_
          refine ⟨rfl,rfl,_,rfl,(fun o z=>by cases z),(by simp),(by have:=nk.l5;simp;omega),fun x hx=>hQ _ (odd_x n5 nk.nm ?_)⟩
          rw [List.map_map] at hx
          exact hx
      obtain ⟨ko,hno,smo⟩:=ho
      refine ⟨rfl,rfl,[_],[.int 0,odd,.non],rfl,rfl,Nat.le_of_ble_eq_true rfl,_,_,rfl,?_⟩
      refine ⟨n,m,F,ks,pl,[.int 0,odd,.non],rfl,rfl,n1,by omega,m1,nk,kso,by show 3<=9;decide,(fun x hx=>?_),gF,(fun e0=>by cases e0),(fun as x r er2 and_ alt nb=>?_),(fun as er2 ane and_ alt=>?_)⟩
      · simp only [List.mem_cons,List.not_mem_nil,or_false] at hx
        rcases hx with rfl | rfl | rfl
        · rfl
        · exact ko
        · rfl
      · have hx:x=odd:=by
          match as,er2,alt with
          | [],e,_=>cases e;exact absurd ⟨0,rfl,by omega,by simp⟩ nb
          | [a],e,_=>cases e;rfl
          | [a,b],e,alt=>
            have e2:odd=.int (b:Int):=by
              have:=congrArg (fun l=>l[1]?) e
              exact Option.some.inj this
            exact absurd e2 (hno b (alt b (by simp)))
          | a::b::c::t,e,_=>
            have:=congrArg (fun l=>l[2]?) e
            have e2:D.non=.int (c:Int):=Option.some.inj this
            cases e2
        subst hx
        refine ⟨_,"InvalidPlace",[x],rfl,T.xe_InvalidPlace,rfl,rfl,?_⟩
        refine adh rfl rfl ?_
        refine ⟨rfl,rfl,?_⟩
        refine adF rfl (aaW (ae1 (b:=267) (m:=20) (aig _) (by decide)) (aaW smo acu)) ?_
        refine abb (brF ?_)
        refine ⟨rfl,rfl,_,rfl,n,m,F,ks,pl,rfl,by omega,m1,nk.l5,kso,?_⟩
        refine ⟨rfl,rfl,?_⟩
        refine adF rfl (aaW (aiM nk (by omega)) (aaW (aeu (aiK (by omega) m1 fun k i j hk hi hj=>(((hF k hk).ln i j hi hj).nb (k:=40) (by decide) (by decide) (by decide)).mono (by decide))) acu)) ?_
        exact abb (brF (hN _ ⟨_,_,_,_,_,_,_,_,_,rfl⟩))
      · match as,er2 with
        | a::b::c::t,e=>
          have:=congrArg (fun l=>l[2]?) e
          have e2:D.non=.int (c:Int):=Option.some.inj this
          cases e2
    obtain ⟨a2,a3,a4,a5,a6,a7,a8,a9,a10,rfl⟩:=hs
    refine afS rfl rfl (amn (ds:=[.int 0]) rfl (by decide) (by decide) (by decide) ?_)
    refine afS rfl rfl (amn (ds:=[.lst (List.replicate 6 [D.int 0]).flatten]) rfl (by decide) (by decide) (by decide) ?_)
    refine ⟨rfl,rfl,_,_,_,rfl,6,(fun _ _=>.int 0),(fun _ _=>0),[],(fun z=>.int ((0:Nat):Int)),[],rfl,rfl,agL (by decide) (by decide),.inl ⟨rfl,rfl⟩,afP (pl:=fun _=>0) amm fun zs hp hs=>?_⟩
    obtain rfl:=List.Perm.eq_nil hp
    refine ⟨rfl,rfl,[_],[.int 5,.int 4,.int 3,.int 2,.int 1,.int 0],rfl,rfl,Nat.le_of_ble_eq_true rfl,_,_,rfl,?_⟩
    refine ⟨6,0,(fun _ _ _=>0),[],(fun _=>0),plD [5,4,3,2,1,0],rfl,rfl,by decide,by decide,by decide,amm,rfl,by decide,(fun x hx=>?_),(fun k _=>⟨(agL (n:=6) (by decide) (by decide)).gd,(agL (n:=6) (by decide) (by decide)).nb⟩),(fun e0=>by cases e0),(fun as x r er2 and_ alt nb=>?_),(fun as er2 ane and_ alt=>?_)⟩
    · obtain ⟨p,_,rfl⟩:=List.mem_map.mp hx;rfl
    · obtain ⟨p,t,eq,rfl⟩:=ahD er2
      have pn:p < 6:=by
        have:p∈[5,4,3,2,1,0]:=by rw [eq];simp
        revert this
        simp only [List.mem_cons,List.not_mem_nil,or_false]
        omega
      exact absurd ⟨p,rfl,pn,alL (as:=as) (t:=t) (by rw [<- eq];decide)⟩ nb
    · obtain rfl:=akj er2
      refine ⟨rfl,_,rfl,6,_,_,_,rfl,?_⟩
      exact acC rfl
end
section
variable {P:Program} {w:World} {K:PySem.W.Frag} {mg:Str->Option Value} {base:Heap} {a:Nat->Addr} {d:Nat->FuncData}
theorem afo:ExT (defBody aaC) (defArgs aaC) (defScope aaC) "self" ["given"] acl where
  shape:=⟨_,_,_,_,_,_,_,_,_,rfl,(.con (fun _=>rfl) (.var (fun _=>rfl) (by decide) .nil)),fun _=>⟨_,rfl⟩,fun env h=>by unfold interactive;simp [Env.blockKind,h]<;>rfl,fun _=>rfl⟩
  head:=⟨_,rfl,rfl⟩
  ks:=by decide +kernel
  kc:=by decide +kernel
  loc:=by decide +kernel
  kind:=rfl
  co:=rfl
  gen:=rfl
  cell:=by decide +kernel
  flds:=by intro f hf x hx;simp at hf;first | (subst hf;cases hx;simp) | (rcases hf with rfl | rfl<;>cases hx<;>simp) | (rcases hf with rfl | rfl | rfl<;>cases hx<;>simp) | (rcases hf with rfl | rfl | rfl | rfl<;>cases hx<;>simp)
  nod:=by decide +kernel
  sd:=by decide
  len:=by decide
theorem afx (e:Addr) (us:List Value) (hl:us.length=(["given"]:List Str).length) (name qual:Str) (doc pm:Value) (an:Option Addr) (cda ct:Value) (cc:Addr):bindArgs (PySem.W.ksFn name qual (defArgs aaC) (defBody aaC) (defScope aaC) .none .none doc pm an cda ct cc) ⟨.ref e::us,[]⟩=pure (((("self":Str)::(["given"]:List Str))).zip (.ref e::us)):=
  match us,hl with
  | [u0],_=>rfl
theorem afn:ExT (defBody aaB) (defArgs aaB) (defScope aaB) "self" ["layer"] adB where
  shape:=⟨_,_,_,_,_,_,_,_,_,rfl,(.con (fun _=>rfl) (.var (fun _=>rfl) (by decide) .nil)),fun _=>⟨_,rfl⟩,fun env h=>by unfold interactive;simp [Env.blockKind,h]<;>rfl,fun _=>rfl⟩
  head:=⟨_,rfl,rfl⟩
  ks:=by decide +kernel
  kc:=by decide +kernel
  loc:=by decide +kernel
  kind:=rfl
  co:=rfl
  gen:=rfl
  cell:=by decide +kernel
  flds:=by intro f hf x hx;simp at hf;first | (subst hf;cases hx;simp) | (rcases hf with rfl | rfl<;>cases hx<;>simp) | (rcases hf with rfl | rfl | rfl<;>cases hx<;>simp) | (rcases hf with rfl | rfl | rfl | rfl<;>cases hx<;>simp)
  nod:=by decide +kernel
  sd:=by decide
  len:=by decide
theorem afw (e:Addr) (us:List Value) (hl:us.length=(["layer"]:List Str).length) (name qual:Str) (doc pm:Value) (an:Option Addr) (cda ct:Value) (cc:Addr):bindArgs (PySem.W.ksFn name qual (defArgs aaB) (defBody aaB) (defScope aaB) .none .none doc pm an cda ct cc) ⟨.ref e::us,[]⟩=pure (((("self":Str)::(["layer"]:List Str))).zip (.ref e::us)):=
  match us,hl with
  | [u0],_=>rfl
theorem agJ:ExT (defBody aaV) (defArgs aaV) (defScope aaV) "self" ["layer","start","goal"] aen where
  shape:=⟨_,_,_,_,_,_,_,_,_,rfl,(.con (fun _=>rfl) (.var (fun _=>rfl) (by decide) (.var (fun _=>rfl) (by decide) (.var (fun _=>rfl) (by decide) .nil)))),fun _=>⟨_,rfl⟩,fun env h=>by unfold interactive;simp [Env.blockKind,h]<;>rfl,fun _=>rfl⟩
  head:=⟨_,rfl,rfl⟩
  ks:=by decide +kernel
  kc:=by decide +kernel
  loc:=by decide +kernel
  kind:=rfl
  co:=rfl
  gen:=rfl
  cell:=by decide +kernel
  flds:=by intro f hf x hx;simp at hf;first | (subst hf;cases hx;simp) | (rcases hf with rfl | rfl<;>cases hx<;>simp) | (rcases hf with rfl | rfl | rfl<;>cases hx<;>simp) | (rcases hf with rfl | rfl | rfl | rfl<;>cases hx<;>simp)
  nod:=by decide +kernel
  sd:=by decide
  len:=by decide
theorem agK (e:Addr) (us:List Value) (hl:us.length=(["layer","start","goal"]:List Str).length) (name qual:Str) (doc pm:Value) (an:Option Addr) (cda ct:Value) (cc:Addr):bindArgs (PySem.W.ksFn name qual (defArgs aaV) (defBody aaV) (defScope aaV) .none .none doc pm an cda ct cc) ⟨.ref e::us,[]⟩=pure (((("self":Str)::(["layer","start","goal"]:List Str))).zip (.ref e::us)):=
  match us,hl with
  | [u0,u1,u2],_=>rfl
theorem ajn:ExT (defBody abY) (defArgs abY) (defScope abY) "self" ["subject","most"] adU where
  shape:=⟨_,_,_,_,_,_,_,_,_,rfl,(.con (fun _=>rfl) (.var (fun _=>rfl) (by decide) (.var (fun _=>rfl) (by decide) .nil))),fun _=>⟨_,rfl⟩,fun env h=>by unfold interactive;simp [Env.blockKind,h]<;>rfl,fun _=>rfl⟩
  head:=⟨_,rfl,rfl⟩
  ks:=by decide +kernel
  kc:=by decide +kernel
  loc:=by decide +kernel
  kind:=rfl
  co:=rfl
  gen:=rfl
  cell:=by decide +kernel
  flds:=by intro f hf x hx;simp at hf;first | (subst hf;cases hx;simp) | (rcases hf with rfl | rfl<;>cases hx<;>simp) | (rcases hf with rfl | rfl | rfl<;>cases hx<;>simp) | (rcases hf with rfl | rfl | rfl | rfl<;>cases hx<;>simp)
  nod:=by decide +kernel
  sd:=by decide
  len:=by decide
theorem ajq (e:Addr) (us:List Value) (hl:us.length=(["subject","most"]:List Str).length) (name qual:Str) (doc pm:Value) (an:Option Addr) (cda ct:Value) (cc:Addr):bindArgs (PySem.W.ksFn name qual (defArgs abY) (defBody abY) (defScope abY) .none .none doc pm an cda ct cc) ⟨.ref e::us,[]⟩=pure (((("self":Str)::(["subject","most"]:List Str))).zip (.ref e::us)):=
  match us,hl with
  | [u0,u1],_=>rfl
theorem af6:ExT (defBody aaL) (defArgs aaL) (defScope aaL) "self" ["given"] acE where
  shape:=⟨_,_,_,_,_,_,_,_,_,rfl,(.con (fun _=>rfl) (.var (fun _=>rfl) (by decide) .nil)),fun _=>⟨_,rfl⟩,fun env h=>by unfold interactive;simp [Env.blockKind,h]<;>rfl,fun _=>rfl⟩
  head:=⟨_,rfl,rfl⟩
  ks:=by decide +kernel
  kc:=by decide +kernel
  loc:=by decide +kernel
  kind:=rfl
  co:=rfl
  gen:=rfl
  cell:=by decide +kernel
  flds:=by intro f hf x hx;simp at hf;first | (subst hf;cases hx;simp) | (rcases hf with rfl | rfl<;>cases hx<;>simp) | (rcases hf with rfl | rfl | rfl<;>cases hx<;>simp) | (rcases hf with rfl | rfl | rfl | rfl<;>cases hx<;>simp)
  nod:=by decide +kernel
  sd:=by decide
  len:=by decide
theorem agc (e:Addr) (us:List Value) (hl:us.length=(["given"]:List Str).length) (name qual:Str) (doc pm:Value) (an:Option Addr) (cda ct:Value) (cc:Addr):bindArgs (PySem.W.ksFn name qual (defArgs aaL) (defBody aaL) (defScope aaL) .none .none doc pm an cda ct cc) ⟨.ref e::us,[]⟩=pure (((("self":Str)::(["given"]:List Str))).zip (.ref e::us)):=
  match us,hl with
  | [u0],_=>rfl
theorem afp:ExT (defBody aaD) (defArgs aaD) (defScope aaD) "self" ["given"] acm where
  shape:=⟨_,_,_,_,_,_,_,_,_,rfl,(.con (fun _=>rfl) (.var (fun _=>rfl) (by decide) .nil)),fun _=>⟨_,rfl⟩,fun env h=>by unfold interactive;simp [Env.blockKind,h]<;>rfl,fun _=>rfl⟩
  head:=⟨_,rfl,rfl⟩
  ks:=by decide +kernel
  kc:=by decide +kernel
  loc:=by decide +kernel
  kind:=rfl
  co:=rfl
  gen:=rfl
  cell:=by decide +kernel
  flds:=by intro f hf x hx;simp at hf;first | (subst hf;cases hx;simp) | (rcases hf with rfl | rfl<;>cases hx<;>simp) | (rcases hf with rfl | rfl | rfl<;>cases hx<;>simp) | (rcases hf with rfl | rfl | rfl | rfl<;>cases hx<;>simp)
  nod:=by decide +kernel
  sd:=by decide
  len:=by decide
theorem afy (e:Addr) (us:List Value) (hl:us.length=(["given"]:List Str).length) (name qual:Str) (doc pm:Value) (an:Option Addr) (cda ct:Value) (cc:Addr):bindArgs (PySem.W.ksFn name qual (defArgs aaD) (defBody aaD) (defScope aaD) .none .none doc pm an cda ct cc) ⟨.ref e::us,[]⟩=pure (((("self":Str)::(["given"]:List Str))).zip (.ref e::us)):=
  match us,hl with
  | [u0],_=>rfl
theorem af5:ExT (defBody aaK) (defArgs aaK) (defScope aaK) "self" ["name"] acD where
  shape:=⟨_,_,_,_,_,_,_,_,_,rfl,(.con (fun _=>rfl) (.var (fun _=>rfl) (by decide) .nil)),fun _=>⟨_,rfl⟩,fun env h=>by unfold interactive;simp [Env.blockKind,h]<;>rfl,fun _=>rfl⟩
  head:=⟨_,rfl,rfl⟩
  ks:=by decide +kernel
  kc:=by decide +kernel
  loc:=by decide +kernel
  kind:=rfl
  co:=rfl
  gen:=rfl
  cell:=by decide +kernel
  flds:=by intro f hf x hx;simp at hf;first | (subst hf;cases hx;simp) | (rcases hf with rfl | rfl<;>cases hx<;>simp) | (rcases hf with rfl | rfl | rfl<;>cases hx<;>simp) | (rcases hf with rfl | rfl | rfl | rfl<;>cases hx<;>simp)
  nod:=by decide +kernel
  sd:=by decide
  len:=by decide
theorem agb (e:Addr) (us:List Value) (hl:us.length=(["name"]:List Str).length) (name qual:Str) (doc pm:Value) (an:Option Addr) (cda ct:Value) (cc:Addr):bindArgs (PySem.W.ksFn name qual (defArgs aaK) (defBody aaK) (defScope aaK) .none .none doc pm an cda ct cc) ⟨.ref e::us,[]⟩=pure (((("self":Str)::(["name"]:List Str))).zip (.ref e::us)):=
  match us,hl with
  | [u0],_=>rfl
theorem afq:ExT (defBody aaE) (defArgs aaE) (defScope aaE) "self" ["given"] acn where
  shape:=⟨_,_,_,_,_,_,_,_,_,rfl,(.con (fun _=>rfl) (.var (fun _=>rfl) (by decide) .nil)),fun _=>⟨_,rfl⟩,fun env h=>by unfold interactive;simp [Env.blockKind,h]<;>rfl,fun _=>rfl⟩
  head:=⟨_,rfl,rfl⟩
  ks:=by decide +kernel
  kc:=by decide +kernel
  loc:=by decide +kernel
  kind:=rfl
  co:=rfl
  gen:=rfl
  cell:=by decide +kernel
  flds:=by intro f hf x hx;simp at hf;first | (subst hf;cases hx;simp) | (rcases hf with rfl | rfl<;>cases hx<;>simp) | (rcases hf with rfl | rfl | rfl<;>cases hx<;>simp) | (rcases hf with rfl | rfl | rfl | rfl<;>cases hx<;>simp)
  nod:=by decide +kernel
  sd:=by decide
  len:=by decide
theorem afz (e:Addr) (us:List Value) (hl:us.length=(["given"]:List Str).length) (name qual:Str) (doc pm:Value) (an:Option Addr) (cda ct:Value) (cc:Addr):bindArgs (PySem.W.ksFn name qual (defArgs aaE) (defBody aaE) (defScope aaE) .none .none doc pm an cda ct cc) ⟨.ref e::us,[]⟩=pure (((("self":Str)::(["given"]:List Str))).zip (.ref e::us)):=
  match us,hl with
  | [u0],_=>rfl
theorem ae7:ExT (defBody aax) (defArgs aax) (defScope aax) "self" ["given"] ab5 where
  shape:=⟨_,_,_,_,_,_,_,_,_,rfl,(.con (fun _=>rfl) (.var (fun _=>rfl) (by decide) .nil)),fun _=>⟨_,rfl⟩,fun env h=>by unfold interactive;simp [Env.blockKind,h]<;>rfl,fun _=>rfl⟩
  head:=⟨_,rfl,rfl⟩
  ks:=by decide +kernel
  kc:=by decide +kernel
  loc:=by decide +kernel
  kind:=rfl
  co:=rfl
  gen:=rfl
  cell:=by decide +kernel
  flds:=by intro f hf x hx;simp at hf;first | (subst hf;cases hx;simp) | (rcases hf with rfl | rfl<;>cases hx<;>simp) | (rcases hf with rfl | rfl | rfl<;>cases hx<;>simp) | (rcases hf with rfl | rfl | rfl | rfl<;>cases hx<;>simp)
  nod:=by decide +kernel
  sd:=by decide
  len:=by decide
theorem afa (e:Addr) (us:List Value) (hl:us.length=(["given"]:List Str).length) (name qual:Str) (doc pm:Value) (an:Option Addr) (cda ct:Value) (cc:Addr):bindArgs (PySem.W.ksFn name qual (defArgs aax) (defBody aax) (defScope aax) .none .none doc pm an cda ct cc) ⟨.ref e::us,[]⟩=pure (((("self":Str)::(["given"]:List Str))).zip (.ref e::us)):=
  match us,hl with
  | [u0],_=>rfl
theorem facts {w:World} {K:PySem.W.Frag} {h:Heap} {mg:Str->Option Value} {f:Addr} (X:K.In h) (G:h.Ns mainGlobals mg) (hfa:mg ("law":Str)=some (.ref f)) (c:SaysZ lyL faL fnL h K) :
    ∃ fd:FuncData,(∀ (s:Shared) (v:Value),BindsTo s fd ⟨[v],[]⟩ [("_law_script",v)])/\∀ base:Heap,K.In base->base.Ns mainGlobals mg->(∀ q∈lamFns K,LamX.TabB base mg q.1 q.2.1)->FnR PySem.Challenge.rw_missingmiles_k16_parts_of_worlds.prog w K mg base 22 f fd ["_law_script"] (spLaw K):=by
  obtain ⟨fd0,F0⟩:=c.s.def_ 0 (d:=df0) rfl
  obtain ⟨fd1,F1⟩:=c.s.def_ 1 (d:=df1) rfl
  obtain ⟨fd2,F2⟩:=c.s.def_ 2 (d:=df2) rfl
  obtain ⟨fd3,F3⟩:=c.s.def_ 3 (d:=df3) rfl
  obtain ⟨fd4,F4⟩:=c.s.def_ 4 (d:=df4) rfl
  obtain ⟨fd5,F5⟩:=c.s.def_ 5 (d:=df5) rfl
  obtain ⟨fd6,F6⟩:=c.s.def_ 6 (d:=df6) rfl
  obtain ⟨fd7,F7⟩:=c.s.def_ 7 (d:=df7) rfl
  obtain ⟨fd8,F8⟩:=c.s.def_ 8 (d:=df8) rfl
  obtain ⟨fd9,F9⟩:=c.s.def_ 9 (d:=df9) rfl
  obtain ⟨fd10,F10⟩:=c.s.def_ 10 (d:=df10) rfl
  obtain ⟨fd11,F11⟩:=c.s.def_ 11 (d:=df11) rfl
  obtain ⟨fd12,F12⟩:=c.s.def_ 12 (d:=df12) rfl
  obtain ⟨fd13,F13⟩:=c.s.def_ 13 (d:=df13) rfl
  obtain ⟨fd14,F14⟩:=c.s.def_ 14 (d:=df14) rfl
  obtain ⟨fd17,F17⟩:=c.s.def_ 15 (d:=df17) rfl
  obtain ⟨fd18,F18⟩:=c.s.def_ 16 (d:=df18) rfl
  obtain ⟨fd19,F19⟩:=c.s.def_ 17 (d:=df19) rfl
  obtain ⟨fd20,F20⟩:=c.s.def_ 18 (d:=df20) rfl
  obtain ⟨fd21,F21⟩:=c.s.def_ 19 (d:=df21) rfl
  obtain ⟨fd22,F22⟩:=c.s.def_ 20 (d:=df22) rfl
  obtain ⟨fd23,F23⟩:=c.s.def_ 21 (d:=df23) rfl
  obtain ⟨fd24,F24⟩:=c.s.def_ 22 (d:=df24) rfl
  obtain ⟨fd25,F25⟩:=c.s.def_ 23 (d:=df25) rfl
  obtain ⟨fd26,F26⟩:=c.s.def_ 24 (d:=df26) rfl
  obtain ⟨fd27,F27⟩:=c.s.def_ 25 (d:=df27) rfl
  obtain ⟨fd28,F28⟩:=c.s.def_ 26 (d:=df28) rfl
  obtain ⟨fd29,F29⟩:=c.s.def_ 27 (d:=df29) rfl
  obtain ⟨fd30,F30⟩:=c.s.def_ 28 (d:=df30) rfl
  obtain ⟨fd31,F31⟩:=c.s.def_ 29 (d:=df31) rfl
  obtain ⟨fd32,F32⟩:=c.s.def_ 30 (d:=df32) rfl
  obtain ⟨fd33,F33⟩:=c.s.def_ 31 (d:=df33) rfl
  obtain ⟨fd34,F34⟩:=c.s.def_ 32 (d:=df34) rfl
  obtain ⟨fd35,F35⟩:=c.s.def_ 33 (d:=df35) rfl
  obtain ⟨fd36,F36⟩:=c.s.def_ 34 (d:=df36) rfl
  obtain ⟨fd37,F37⟩:=c.s.def_ 35 (d:=df37) rfl
  obtain ⟨fd38,F38⟩:=c.s.def_ 36 (d:=df38) rfl
  obtain ⟨fd39,F39⟩:=c.s.def_ 37 (d:=df39) rfl
  obtain ⟨fd40,F40⟩:=c.s.def_ 38 (d:=df40) rfl
  obtain ⟨fd41,F41⟩:=c.s.def_ 39 (d:=df41) rfl
  obtain ⟨fd42,F42⟩:=c.s.def_ 40 (d:=df42) rfl
  obtain ⟨fd43,F43⟩:=c.s.def_ 41 (d:=df43) rfl
  have Pp15:=c.pr ps15 (List.mem_of_getElem? (i:=0) rfl)
  obtain ⟨fd15,F15⟩:=Pp15.f
  have Pp16:=c.pr ps16 (List.mem_of_getElem? (i:=1) rfl)
  obtain ⟨fd16,F16⟩:=Pp16.f
  have e:=hfa.symm.trans (He.glo_ok X G (c.s.fact 41 (f:=.glo "law") rfl))
  cases e
  have su:=He.free_ok X G (c.s.fact 72 (f:=.free "super") rfl)
  have X0:=c.x ady (List.mem_of_getElem? (i:=0) rfl)
  have X1:=c.x adx (List.mem_of_getElem? (i:=1) rfl)
  have X2:=c.x aem (List.mem_of_getElem? (i:=2) rfl)
  have X3:=c.x agx (List.mem_of_getElem? (i:=3) rfl)
  have X4:=c.x ad8 (List.mem_of_getElem? (i:=4) rfl)
  have X5:=c.x adz (List.mem_of_getElem? (i:=5) rfl)
  have X6:=c.x ad7 (List.mem_of_getElem? (i:=6) rfl)
  have X7:=c.x adA (List.mem_of_getElem? (i:=7) rfl)
  have X8:=c.x adt (List.mem_of_getElem? (i:=8) rfl)
  have T:∀ base:Heap,(∀ q∈lamFns K,LamX.TabB base mg q.1 q.2.1)->Tx PySem.Challenge.rw_missingmiles_k16_parts_of_worlds.prog K mg base (fun i=>match i with | 0=>He.ga K "is_whole" | 1=>He.ga K "is_number" | 2=>He.ga K "is_ratio" | 3=>He.ga K "is_valued" | 4=>He.ga K "lowest" | 5=>He.ga K "ratio_of" | 6=>He.ga K "plus" | 7=>He.ga K "below" | 8=>He.ga K "is_name" | 9=>He.ga K "is_layer" | 10=>He.ga K "is_square" | 11=>He.ga K "first_fault" | 12=>He.ga K "checked_table" | 13=>He.ga K "checked_places" | 14=>He.ma K (He.ga K "World") "__init__" | 15=>gAt K (He.ga K "World") "size" | 16=>gAt K (He.ga K "World") "layers" | 17=>He.ma K (He.ga K "World") "names" | 18=>He.ma K (He.ga K "World") "__contains__" | 19=>He.ma K (He.ga K "World") "place" | 20=>He.ma K (He.ga K "World") "rows_of" | 21=>He.ma K (He.ga K "World") "table" | 22=>He.ma K (He.ga K "World") "with_tables" | 23=>He.ma K (He.ga K "World") "part" | 24=>He.ga K "_law_source" | 25=>He.ga K "_law_draw" | 26=>He.ga K "_law_of" | 27=>He.ga K "_law_mixed" | 28=>He.ga K "_law_same" | 29=>He.ga K "_law_fields" | 30=>He.ga K "_law_ask" | 31=>He.ga K "_law_low" | 32=>He.ga K "_law_plus" | 33=>He.ga K "_law_less" | 34=>He.ga K "_law_least" | 35=>He.ga K "_law_names" | 36=>He.ga K "_law_length" | 37=>He.ga K "_law_closed" | 38=>He.ga K "_law_table" | 39=>He.ga K "_law_spread_plan" | 40=>He.ga K "_law_made" | 41=>He.ga K "_law_told" | 42=>He.ga K "_law_part" | 43=>He.ga K "law" | _=>0) (fun i=>match i with | 0=>fd0 | 1=>fd1 | 2=>fd2 | 3=>fd3 | 4=>fd4 | 5=>fd5 | 6=>fd6 | 7=>fd7 | 8=>fd8 | 9=>fd9 | 10=>fd10 | 11=>fd11 | 12=>fd12 | 13=>fd13 | 14=>fd14 | 15=>fd15 | 16=>fd16 | 17=>fd17 | 18=>fd18 | 19=>fd19 | 20=>fd20 | 21=>fd21 | 22=>fd22 | 23=>fd23 | 24=>fd24 | 25=>fd25 | 26=>fd26 | 27=>fd27 | 28=>fd28 | 29=>fd29 | 30=>fd30 | 31=>fd31 | 32=>fd32 | 33=>fd33 | 34=>fd34 | 35=>fd35 | 36=>fd36 | 37=>fd37 | 38=>fd38 | 39=>fd39 | 40=>fd40 | 41=>fd41 | 42=>fd42 | 43=>fd43 | _=>fd0):=fun base tb=>
    { tb:=tb
      F_is_whole:=F0
      m_is_whole:=He.glo_ok X G (c.s.fact 0 (f:=.glo "is_whole") rfl)
      F_is_number:=F1
      m_is_number:=He.glo_ok X G (c.s.fact 1 (f:=.glo "is_number") rfl)
      F_is_ratio:=F2
      m_is_ratio:=He.glo_ok X G (c.s.fact 2 (f:=.glo "is_ratio") rfl)
      F_is_valued:=F3
      m_is_valued:=He.glo_ok X G (c.s.fact 3 (f:=.glo "is_valued") rfl)
      F_lowest:=F4
      m_lowest:=He.glo_ok X G (c.s.fact 4 (f:=.glo "lowest") rfl)
      F_ratio_of:=F5
      m_ratio_of:=He.glo_ok X G (c.s.fact 5 (f:=.glo "ratio_of") rfl)
      F_plus:=F6
      m_plus:=He.glo_ok X G (c.s.fact 6 (f:=.glo "plus") rfl)
      F_below:=F7
      m_below:=He.glo_ok X G (c.s.fact 7 (f:=.glo "below") rfl)
      F_is_name:=F8
      m_is_name:=He.glo_ok X G (c.s.fact 8 (f:=.glo "is_name") rfl)
      F_is_layer:=F9
      m_is_layer:=He.glo_ok X G (c.s.fact 9 (f:=.glo "is_layer") rfl)
      F_is_square:=F10
      m_is_square:=He.glo_ok X G (c.s.fact 10 (f:=.glo "is_square") rfl)
      F_first_fault:=F11
      m_first_fault:=He.glo_ok X G (c.s.fact 11 (f:=.glo "first_fault") rfl)
      F_checked_table:=F12
      m_checked_table:=He.glo_ok X G (c.s.fact 12 (f:=.glo "checked_table") rfl)
      F_checked_places:=F13
      m_checked_places:=He.glo_ok X G (c.s.fact 13 (f:=.glo "checked_places") rfl)
      F_World___init__:=F14
      mk_World:=He.mkr_ok (c.s.fact 14 (f:=.mkr "World") rfl)
      F_World_size:=F15
      pr_World_size:=Pp15.p rfl
      F_World_layers:=F16
      pr_World_layers:=Pp16.p rfl
      F_World_names:=F17
      me_World_names:=He.meth_ok (c.s.fact 15 (f:=.meth "World" "names") rfl)
      F_World___contains__:=F18
      me_World___contains__:=He.meth_ok (c.s.fact 16 (f:=.meth "World" "__contains__") rfl)
      F_World_place:=F19
      me_World_place:=He.meth_ok (c.s.fact 17 (f:=.meth "World" "place") rfl)
      F_World_rows_of:=F20
      me_World_rows_of:=He.meth_ok (c.s.fact 18 (f:=.meth "World" "rows_of") rfl)
      F_World_table:=F21
      me_World_table:=He.meth_ok (c.s.fact 19 (f:=.meth "World" "table") rfl)
      F_World_with_tables:=F22
      me_World_with_tables:=He.meth_ok (c.s.fact 20 (f:=.meth "World" "with_tables") rfl)
      F_World_part:=F23
      me_World_part:=He.meth_ok (c.s.fact 21 (f:=.meth "World" "part") rfl)
      F__law_source:=F24
      m__law_source:=He.glo_ok X G (c.s.fact 22 (f:=.glo "_law_source") rfl)
      F__law_draw:=F25
      m__law_draw:=He.glo_ok X G (c.s.fact 23 (f:=.glo "_law_draw") rfl)
      F__law_of:=F26
      m__law_of:=He.glo_ok X G (c.s.fact 24 (f:=.glo "_law_of") rfl)
      F__law_mixed:=F27
      m__law_mixed:=He.glo_ok X G (c.s.fact 25 (f:=.glo "_law_mixed") rfl)
      F__law_same:=F28
      m__law_same:=He.glo_ok X G (c.s.fact 26 (f:=.glo "_law_same") rfl)
      F__law_fields:=F29
      m__law_fields:=He.glo_ok X G (c.s.fact 27 (f:=.glo "_law_fields") rfl)
      F__law_ask:=F30
      m__law_ask:=He.glo_ok X G (c.s.fact 28 (f:=.glo "_law_ask") rfl)
      F__law_low:=F31
      m__law_low:=He.glo_ok X G (c.s.fact 29 (f:=.glo "_law_low") rfl)
      F__law_plus:=F32
      m__law_plus:=He.glo_ok X G (c.s.fact 30 (f:=.glo "_law_plus") rfl)
      F__law_less:=F33
      m__law_less:=He.glo_ok X G (c.s.fact 31 (f:=.glo "_law_less") rfl)
      F__law_least:=F34
      m__law_least:=He.glo_ok X G (c.s.fact 32 (f:=.glo "_law_least") rfl)
      F__law_names:=F35
      m__law_names:=He.glo_ok X G (c.s.fact 33 (f:=.glo "_law_names") rfl)
      F__law_length:=F36
      m__law_length:=He.glo_ok X G (c.s.fact 34 (f:=.glo "_law_length") rfl)
      F__law_closed:=F37
      m__law_closed:=He.glo_ok X G (c.s.fact 35 (f:=.glo "_law_closed") rfl)
      F__law_table:=F38
      m__law_table:=He.glo_ok X G (c.s.fact 36 (f:=.glo "_law_table") rfl)
      F__law_spread_plan:=F39
      m__law_spread_plan:=He.glo_ok X G (c.s.fact 37 (f:=.glo "_law_spread_plan") rfl)
      F__law_made:=F40
      m__law_made:=He.glo_ok X G (c.s.fact 38 (f:=.glo "_law_made") rfl)
      F__law_told:=F41
      m__law_told:=He.glo_ok X G (c.s.fact 39 (f:=.glo "_law_told") rfl)
      F__law_part:=F42
      m__law_part:=He.glo_ok X G (c.s.fact 40 (f:=.glo "_law_part") rfl)
      F_law:=F43
      m_World:=He.glo_ok X G (c.s.fact 42 (f:=.glo "World") rfl)
      cl_World:=He.cls_ok (c.s.fact 43 (f:=.cls "World") rfl)
      na_World_own_tables:=He.noat_ok (c.s.fact 44 (f:=.noat "World" "own_tables") rfl)
      na_World_own_names:=He.noat_ok (c.s.fact 45 (f:=.noat "World" "own_names") rfl)
      t_LAYERS:=gt_ok c.toSaysY.toSaysX X G (i:=0) rfl
      x_InvalidRatio:=X0.cls afo (by decide +kernel) (by decide +kernel) afx (by intro f hf;simp at hf;rcases hf with rfl | rfl<;>decide) (fun vs z=>by cases z) su (by decide)
      xe_InvalidRatio:=X0.r rfl
      x_InvalidTable:=X1.cls afn (by decide +kernel) (by decide +kernel) afw (by intro f hf;simp at hf;rcases hf with rfl | rfl<;>decide) (fun vs z=>by cases z) su (by decide)
      xe_InvalidTable:=X1.r rfl
      x_InvalidWay:=X2.cls agJ (by decide +kernel) (by decide +kernel) agK (by intro f hf;simp at hf;rcases hf with rfl | rfl | rfl | rfl<;>decide) (fun vs z=>by cases z) su (by decide)
      xe_InvalidWay:=X2.r rfl
      x_TooMany:=X3.cls ajn (by decide +kernel) (by decide +kernel) ajq (by intro f hf;simp at hf;rcases hf with rfl | rfl | rfl<;>decide) (fun vs z=>by cases z) su (by decide)
      xe_TooMany:=X3.r rfl
      x_InvalidName:=X4.cls af6 (by decide +kernel) (by decide +kernel) agc (by intro f hf;simp at hf;rcases hf with rfl | rfl<;>decide) (fun vs z=>by cases z) su (by decide)
      xe_InvalidName:=X4.r rfl
      x_InvalidPlace:=X5.cls afp (by decide +kernel) (by decide +kernel) afy (by intro f hf;simp at hf;rcases hf with rfl | rfl<;>decide) (fun vs z=>by cases z) su (by decide)
      xe_InvalidPlace:=X5.r rfl
      x_UnknownName:=X6.cls af5 (by decide +kernel) (by decide +kernel) agb (by intro f hf;simp at hf;rcases hf with rfl | rfl<;>decide) (fun vs z=>by cases z) su (by decide)
      xe_UnknownName:=X6.r rfl
      x_InvalidLayer:=X7.cls afq (by decide +kernel) (by decide +kernel) afz (by intro f hf;simp at hf;rcases hf with rfl | rfl<;>decide) (fun vs z=>by cases z) su (by decide)
      xe_InvalidLayer:=X7.r rfl
      x_InvalidNumber:=X8.cls ae7 (by decide +kernel) (by decide +kernel) afa (by intro f hf;simp at hf;rcases hf with rfl | rfl<;>decide) (fun vs z=>by cases z) su (by decide)
      xe_InvalidNumber:=X8.r rfl
      m_InvalidRatio:=He.glo_ok X G (c.s.fact 46 (f:=.glo "InvalidRatio") rfl)
      m_InvalidTable:=He.glo_ok X G (c.s.fact 47 (f:=.glo "InvalidTable") rfl)
      m_InvalidWay:=He.glo_ok X G (c.s.fact 48 (f:=.glo "InvalidWay") rfl)
      m_TooMany:=He.glo_ok X G (c.s.fact 49 (f:=.glo "TooMany") rfl)
      m_InvalidName:=He.glo_ok X G (c.s.fact 50 (f:=.glo "InvalidName") rfl)
      m_InvalidPlace:=He.glo_ok X G (c.s.fact 51 (f:=.glo "InvalidPlace") rfl)
      m_UnknownName:=He.glo_ok X G (c.s.fact 52 (f:=.glo "UnknownName") rfl)
      m_InvalidLayer:=He.glo_ok X G (c.s.fact 53 (f:=.glo "InvalidLayer") rfl)
      m_InvalidNumber:=He.glo_ok X G (c.s.fact 54 (f:=.glo "InvalidNumber") rfl)
      m_MilesError:=He.glo_ok X G (c.s.fact 55 (f:=.glo "MilesError") rfl)
      m_Missing:=He.glo_ok X G (c.s.fact 56 (f:=.glo "Missing") rfl)
      m_NothingLeft:=He.glo_ok X G (c.s.fact 57 (f:=.glo "NothingLeft") rfl)
      n_abs:=He.free_ok X G (c.s.fact 58 (f:=.free "abs") rfl)
      n_all:=He.free_ok X G (c.s.fact 59 (f:=.free "all") rfl)
      n_any:=He.free_ok X G (c.s.fact 60 (f:=.free "any") rfl)
      n_bool:=He.free_ok X G (c.s.fact 61 (f:=.free "bool") rfl)
      n_dict:=He.free_ok X G (c.s.fact 62 (f:=.free "dict") rfl)
      n_enumerate:=He.free_ok X G (c.s.fact 63 (f:=.free "enumerate") rfl)
      n_int:=He.free_ok X G (c.s.fact 64 (f:=.free "int") rfl)
      n_isinstance:=He.free_ok X G (c.s.fact 65 (f:=.free "isinstance") rfl)
      n_len:=He.free_ok X G (c.s.fact 66 (f:=.free "len") rfl)
      n_list:=He.free_ok X G (c.s.fact 67 (f:=.free "list") rfl)
      n_range:=He.free_ok X G (c.s.fact 68 (f:=.free "range") rfl)
      n_repr:=He.free_ok X G (c.s.fact 69 (f:=.free "repr") rfl)
      n_sorted:=He.free_ok X G (c.s.fact 70 (f:=.free "sorted") rfl)
      n_str:=He.free_ok X G (c.s.fact 71 (f:=.free "str") rfl)
      n_super:=He.free_ok X G (c.s.fact 72 (f:=.free "super") rfl)
      n_tuple:=He.free_ok X G (c.s.fact 73 (f:=.free "tuple") rfl)
      b_gcd:=c.blt X G 0 rfl
      c_ZERO:=c.glob X G 0 rfl
      c_LETTERS:=c.glob X G 1 rfl
      c_LAYERS:=c.glob X G 2 rfl
      c_MOST_NAMED:=c.glob X G 3 rfl
      c_MOST_PLACES:=c.glob X G 4 rfl }
  exact ⟨fd43,alj F43 fun _ _ _ _ _ _ u=>rfl,fun base _ _ tb=>aoi (T base tb)⟩
end
end K16
open PySem PySem.W PySem.Calls PyProof.Rows in
set_option maxRecDepth 100000 in
set_option maxHeartbeats 0 in
theorem PySem.Challenge.cw_missingmiles_k16_parts_of_worlds_holds : PySem.Challenge.rw_missingmiles_k16_parts_of_worlds.Holds := by
  w_on;o_law
  refine HandSHeadRun.head_imp (r:=OpenLaw.row PySem.Challenge.rw_missingmiles_k16_parts_of_worlds) (q:=K16.qv) (H:=K16.hk) (ob:=K16.ob) (M:=9000) (loose:=K16.names) (d:=HandSHeadRun.topDef (OpenLaw.row PySem.Challenge.rw_missingmiles_k16_parts_of_worlds).prog 59) (kwd:=[]) K16.ob_eq
    K16.run (by kernel_rfl) (by kernel_rfl) (by kernel_rfl) (by rfl) (by first | assumption | decide +kernel) (by decide +kernel) ⟨rfl,rfl,rfl,rfl,rfl,by decide +kernel⟩ ?hw ?hc
  case hw=>w_witness2
  case hc=>
    refine DL.alo (l:=PySem.Challenge.rw_missingmiles_k16_parts_of_worlds) (n:=63) (k:=22) (x:="_law_script") rfl (by decide) (by kernel_rfl) ⟨rfl,by decide,by decide⟩ ?F
    intro w mg fa h Y G hmg0
    obtain ⟨K,KX,c⟩:=Y
    have hmg:mg ("law":PySem.Str)=some (.ref fa):=by
      have e:(HandSHeadRun.topDef (OpenLaw.row PySem.Challenge.rw_missingmiles_k16_parts_of_worlds).prog 59).name=("law":PySem.Str):=by kernel_rfl
      rw [<- e]
      exact hmg0
    obtain ⟨fd,hb,hF⟩:=K16.facts (w:=w) KX G hmg c
    exact ⟨K,fd,DL.spLaw K,KX,hb,c.te,c.tn,c.tc,fun H a ns hl hT hS=>⟨a,ns,rfl,hS,hl,hT,c.tu,fun _=>rfl⟩,hF⟩
