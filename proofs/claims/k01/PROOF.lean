import PyProof.Rows.All
import Wide.All
import OpenK.AllK
import Wide.FinOn
import HandS.ForMost
import HandS.Exc
import HandS.TryOnly
import HandS.ExcOwn
import HandS.WordsExc
import HandS.CallSlots
import HandS.Walk
import HandS.Wide
import HandS.Gcd
import HandS.IsInst
import HandS.Defaults
import HandS.Lambda
import HandS.EndTab
import HandS.ExcCtx
import HandS.HotCalls
import HandS.ExcField
import KE.KExcSuper
import KE.KTryMore
import HandS.HeadHook4
import HandS.TupAny
import HandS.Deep
import HandS.RaiseMore
import HandS.Flow
import HandS.Zip
import KE.KStateDown
import HandS.Head0
import HandS.Head1
import HandS.Head2
import HandS.Head3
import HandS.HeadEnd
import HandS.HeadHook1
import HandS.HeadHook2
import HandS.MakeKwOnly
import HandS.Style
import HandS.TupLe
import KE.GoesZip
import KE.GoesMore
import HandS.ExcValue
import HandS.ExcInit
import KE.KDflt
import HandS.Star
import HandS.FStr
import HandS.Property
import HandS.ClsMeth
import HandS.Small
import PyProof.MeetsIn
import HandS.Strs
import HandS.More
import HandS.Conv
import PyProof.ListStr
import HandS.Text
import HandS.StrMore
import PyProof.StrBlock2
import KE.SortData
import HandS.SortInts
import KE.SortKeyed
import HandS.Keys
import HandS.SortKw
import KE.KDictPairs
import KE.KEqDict
import HandS.DictTup
import HandS.ListItems
import HandS.DictComp
import HandS.TupSets
import HandS.SetBool
import KE.KUnpackStar
import KE.KDictZip
import HandS.TupMul
import HandS.Finally
import HandS.OwnEq
import KE.KEqNest
import PyProof.DictFindH
import KE.KExcIs
import PySem.Challenge.RW_missingmiles_k01_errors_by_themselves
set_option Elab.async false
set_option linter.all false
set_option maxRecDepth 100000
set_option autoImplicit false
set_option maxHeartbeats 2000000
namespace DL
open PySem PySem.Spec PyProof.Rows L2
inductive D where
  | non | bl (b:Bool) | int (i:Int) | str (x:Str)
  | lst (ds:List D) | tup (ds:List D)
  | ins (C:Addr) (fs:List (Str × D))
  | dk (kvs:List (Key × D)) | dt (kvs:List (List Key × D))
  | any
  | raw (v:V)
  | kt (ks:List Key)
abbrev Ex (H H':Hp):Prop:=∀ a o,H a=some o->H' a=some o
theorem Ex.refl (H:Hp):Ex H H:=fun _ _ h=>h
theorem Ex.trans {H H1 H2:Hp} (a:Ex H H1) (b:Ex H1 H2):Ex H H2:=fun x o h=>b x o (a x o h)
theorem Ex.new {H:Hp} {p:Addr} {o:HO} (h:H p=none):Ex H (upd H p o):=fun a u e=>by
  rw [upd_ne (ne_of_none e h)];exact e
theorem Ex.up {G H:Hp} {p:Addr} {o:HO} (e:Ex G H):Ex (upd G p o) (upd H p o):=fun a u h=>by
  by_cases q:a=p
  · subst q;rw [upd_same] at h ⊢;exact h
  · rw [upd_ne q] at h ⊢;exact e a u h
theorem Ex.free {G H:Hp} (e:Ex G H) {a:Addr} (h:H a=none):G a=none:=by
  cases q:G a with
  | none=>rfl
  | some o=>rw [e a o q] at h;cases h
theorem ait {H H':Hp} {a:Addr} {u:HO} (e:Ex H H') (h:Rd H a u):Rd H' a u:=by
  rcases h with h | ⟨o,h⟩
  · exact Or.inl (e a _ h)
  · exact Or.inr ⟨o,e a _ h⟩
theorem ex_l {K:PySem.W.Frag} {H H':Hp} {a:Addr} {xs:List V} (e:Ex H H') (h:SqL K H a xs):SqL K H' a xs:=by
  rcases h with h | h
  · exact Or.inl (ait e h)
  · exact Or.inr h
theorem ex_t {K:PySem.W.Frag} {H H':Hp} {a:Addr} {xs:List V} (e:Ex H H') (h:SqT K H a xs):SqT K H' a xs:=by
  rcases h with h | h
  · exact Or.inl (ait e h)
  · exact Or.inr h
mutual
inductive DOk (K:PySem.W.Frag) (G:Hp):V->D->Prop
  | non:DOk K G .non .non
  | bl (b:Bool):DOk K G (.bl b) (.bl b)
  | int (i:Int):DOk K G (.int i) (.int i)
  | str (x:Str):DOk K G (.str x) (.str x)
  | lst {a:Addr} {vs:List V} {ds:List D}:G a=some (.lst vs)->DAll K G vs ds->DOk K G (.ref a) (.lst ds)
  | tup {a:Addr} {vs:List V} {ds:List D}:SqT K G a vs->DAll K G vs ds->DOk K G (.ref a) (.tup ds)
  | ins {a C dx:Addr} {vs:List (Str × V)} {fs:List (Str × D)}:G a=some (.ins C dx vs)->G dx=some (.own a)->FAll K G vs fs->DOk K G (.ref a) (.ins C fs)
  | any (v:V):DOk K G v .any
  | dk {a:Addr} {o:Obj} {vs:List (Key × V)} {fs:List (Key × D)}:G a=some (.frz o (.dK vs))->FAll K G vs fs->DOk K G (.ref a) (.dk fs)
  | dt {a:Addr} {o:Obj} {vs:List (List Key × V)} {fs:List (List Key × D)}:G a=some (.frz o (.dT vs))->FAll K G vs fs->DOk K G (.ref a) (.dt fs)
  | raw (v:V):DOk K G v (.raw v)
  | kt {a:Addr} {ks:List Key}:G a=some (.tup (ks.map kV))->DOk K G (.ref a) (.kt ks)
inductive DAll (K:PySem.W.Frag) (G:Hp):List V->List D->Prop
  | nil:DAll K G [] []
  | cons {v:V} {d:D} {vs:List V} {ds:List D}:DOk K G v d->DAll K G vs ds->DAll K G (v::vs) (d::ds)
inductive FAll (K:PySem.W.Frag) (G:Hp):{κ:Type}->List (κ × V)->List (κ × D)->Prop
  | nil {κ:Type}:FAll K G (κ:=κ) [] []
  | cons {κ:Type} {x:κ} {v:V} {d:D} {vs:List (κ × V)} {ds:List (κ × D)}:DOk K G v d->FAll K G vs ds->FAll K G ((x,v)::vs) ((x,d)::ds)
end
section
variable {K:PySem.W.Frag} {G G':Hp}
mutual
theorem DOk.mono (e:Ex G G'):∀ {v:V} {d:D},DOk K G v d->DOk K G' v d
  | _,_,.non=>.non
  | _,_,.bl b=>.bl b
  | _,_,.int i=>.int i
  | _,_,.str x=>.str x
  | _,_,.lst h a=>.lst (e _ _ h) (DAll.mono e a)
  | _,_,.tup h a=>.tup (ex_t e h) (DAll.mono e a)
  | _,_,.ins h h2 a=>.ins (e _ _ h) (e _ _ h2) (FAll.mono e a)
  | _,_,.any v=>.any v
  | _,_,.dk h a=>.dk (e _ _ h) (FAll.mono e a)
  | _,_,.dt h a=>.dt (e _ _ h) (FAll.mono e a)
  | _,_,.raw v=>.raw v
  | _,_,.kt h=>.kt (e _ _ h)
theorem DAll.mono (e:Ex G G'):∀ {vs:List V} {ds:List D},DAll K G vs ds->DAll K G' vs ds
  | _,_,.nil=>.nil
  | _,_,.cons h t=>.cons (DOk.mono e h) (DAll.mono e t)
theorem FAll.mono (e:Ex G G'):∀ {κ:Type} {vs:List (κ × V)} {ds:List (κ × D)},FAll K G vs ds->FAll K G' vs ds
  | _,_,_,.nil=>.nil
  | _,_,_,.cons h t=>.cons (DOk.mono e h) (FAll.mono e t)
end
theorem DAll.length:∀ {vs:List V} {ds:List D},DAll K G vs ds->vs.length=ds.length
  | _,_,.nil=>rfl
  | _,_,.cons _ t=>congrArg (· + 1) (DAll.length t)
theorem DAll.get:∀ {vs:List V} {ds:List D} {i:Nat} {d:D},DAll K G vs ds->ds[i]?=some d->∃ v,vs[i]?=some v/\DOk K G v d
  | _,_,_,_,.nil,e=>by simp at e
  | _,_,0,_,.cons h _,e=>by simp at e;subst e;exact ⟨_,rfl,h⟩
  | _,_,i + 1,_,.cons _ t,e=>by
    obtain ⟨v,h1,h2⟩:=DAll.get (i:=i) t (by simpa using e)
    exact ⟨v,by simpa using h1,h2⟩
theorem DAll.getV:∀ {vs:List V} {ds:List D} {i:Nat} {v:V},DAll K G vs ds->vs[i]?=some v->∃ d,ds[i]?=some d/\DOk K G v d
  | _,_,_,_,.nil,e=>by simp at e
  | _,_,0,_,.cons h _,e=>by simp at e;subst e;exact ⟨_,rfl,h⟩
  | _,_,i + 1,_,.cons _ t,e=>by
    obtain ⟨v,h1,h2⟩:=DAll.getV (i:=i) t (by simpa using e)
    exact ⟨v,by simpa using h1,h2⟩
theorem DAll.append:∀ {vs ws:List V} {ds es:List D},DAll K G vs ds->DAll K G ws es->DAll K G (vs++ws) (ds++es)
  | _,_,_,_,.nil,s=>s
  | _,_,_,_,.cons h t,s=>.cons h (DAll.append t s)
theorem DAll.drop:∀ {vs:List V} {ds:List D} (n:Nat),DAll K G vs ds->DAll K G (vs.drop n) (ds.drop n)
  | _,_,0,r=>r
  | _,_,_ + 1,.nil=>.nil
  | _,_,n + 1,.cons _ t=>DAll.drop n t
theorem DAll.set {v:V} {d:D} (r:DOk K G v d):∀ {vs:List V} {ds:List D} (i:Nat),DAll K G vs ds->DAll K G (vs.set i v) (ds.set i d)
  | _,_,_,.nil=>.nil
  | _,_,0,.cons _ t=>.cons r t
  | _,_,i + 1,.cons q t=>.cons q (DAll.set r i t)
theorem FAll.look {κ:Type} [BEq κ]:∀ {vs:List (κ × V)} {fs:List (κ × D)} {f:κ} {d:D},FAll K G vs fs->fs.lookup f=some d->∃ v,vs.lookup f=some v/\DOk K G v d
  | _,_,_,_,.nil,e=>by simp at e
  | _,_,f,d,.cons (x:=x) h t,e=>by
    rw [List.lookup_cons] at e
    rw [List.lookup_cons]
    cases q:f == x with
    | true=>rw [q] at e;cases e;exact ⟨_,rfl,h⟩
    | false=>rw [q] at e;exact FAll.look t e
end
inductive OO where
  | lst (ds:List D)
  | ins (x C:Addr) (fs:List (Str × D))
  | dk (kvs:List (Key × D)) | dt (kvs:List (List Key × D))
structure GR where
  as:List Addr
  R:PySem.W.Frag->Hp->Hp->Prop
  st:∀ K G G' H H',Ex G G'->(∀ a∈as,H' a=H a)->R K G H->R K G' H'
  kd:Addr->Addr
inductive DV where
  | d (x:D) | src | own (o:OO) | bor (o:OO) | see (o:OO)
  | mu (x C:Addr) (fs:List (Str × D))
  | gh (x:Addr) (r:GR)
def OwnOk (K:PySem.W.Frag) (G H:Hp) (a:Addr):OO->Prop
  | .lst ds=>∃ vs,H a=some (.lst vs)/\DAll K G vs ds
  | .ins x C fs=>a=x/\∃ dx vs,H a=some (.ins C dx vs)/\G dx=some (.own a)/\FAll K G vs fs
  | .dk kvs=>∃ vs,H a=some (.dK vs)/\FAll K G vs kvs
  | .dt kvs=>∃ vs,H a=some (.dT vs)/\FAll K G vs kvs
theorem OwnOk.there {K:PySem.W.Frag} {G H:Hp} {a:Addr} {o:OO} (h:OwnOk K G H a o):H a≠none:=by
  cases o with
  | lst ds=>obtain ⟨vs,e,_⟩:=h;rw [e];simp
  | ins x C fs=>obtain ⟨_,dx,vs,e,_⟩:=h;rw [e];simp
  | dk kvs=>obtain ⟨vs,e,_⟩:=h;rw [e];simp
  | dt kvs=>obtain ⟨vs,e,_⟩:=h;rw [e];simp
theorem OwnOk.keep {K:PySem.W.Frag} {G H G' H':Hp} {a:Addr} {o:OO} (h:OwnOk K G H a o) (e:Ex G G') (k:H' a=H a):OwnOk K G' H' a o:=by
  cases o with
  | lst ds=>obtain ⟨vs,q,r⟩:=h;exact ⟨vs,by rw [k];exact q,r.mono e⟩
  | ins x C fs=>obtain ⟨ex,dx,vs,q,g,r⟩:=h;exact ⟨ex,dx,vs,by rw [k];exact q,e _ _ g,r.mono e⟩
  | dk kvs=>obtain ⟨vs,q,r⟩:=h;exact ⟨vs,by rw [k];exact q,r.mono e⟩
  | dt kvs=>obtain ⟨vs,q,r⟩:=h;exact ⟨vs,by rw [k];exact q,r.mono e⟩
def BorOk (K:PySem.W.Frag) (G H:Hp) (a:Addr):OO->Prop
  | .dk kvs=>∃ o vs,H a=some (.frz o (.dK vs))/\FAll K G vs kvs
  | .dt kvs=>∃ o vs,H a=some (.frz o (.dT vs))/\FAll K G vs kvs
  | .lst ds=>OwnOk K G H a (.lst ds)
  | .ins x C fs=>OwnOk K G H a (.ins x C fs)
theorem BorOk.there {K:PySem.W.Frag} {G H:Hp} {a:Addr} {o:OO} (h:BorOk K G H a o):H a≠none:=by
  cases o with
  | lst ds=>exact OwnOk.there (K:=K) (G:=G) (o:=.lst ds) h
  | ins x C fs=>exact OwnOk.there (K:=K) (G:=G) (o:=.ins x C fs) h
  | dk kvs=>obtain ⟨o,vs,e,_⟩:=h;rw [e];simp
  | dt kvs=>obtain ⟨o,vs,e,_⟩:=h;rw [e];simp
theorem BorOk.keep {K:PySem.W.Frag} {G H G' H':Hp} {a:Addr} {o:OO} (h:BorOk K G H a o) (e:Ex G G') (k:H' a=H a):BorOk K G' H' a o:=by
  cases o with
  | lst ds=>exact OwnOk.keep (o:=.lst ds) h e k
  | ins x C fs=>exact OwnOk.keep (o:=.ins x C fs) h e k
  | dk kvs=>obtain ⟨o,vs,q,r⟩:=h;exact ⟨o,vs,by rw [k];exact q,r.mono e⟩
  | dt kvs=>obtain ⟨o,vs,q,r⟩:=h;exact ⟨o,vs,by rw [k];exact q,r.mono e⟩
def SeeOk (K:PySem.W.Frag) (G H:Hp) (a:Addr) (o:OO):Prop:=OwnOk K G H a o
def SrcOk (K:PySem.W.Frag) (G H:Hp) (a c:Addr):Prop:=G a=none/\∃ (ns:List Int) (i r sd n:Int),
  H a=some (.lst [.ref c,.int i,.int r,.int sd,.int n])/\SqL K G c (ns.map V.int)/\ns.length<=63/\0<=i/\0<=r/\0<=sd/\sd < 4294967296
def TabOk (G H:Hp) (a:Addr) (q:Str):Prop:=G a=none/\∃ ps:Array Value,H a=some (.tbl ps)/\TriplesOk ps.toList/\∀ (pos:Pos) (cv:Value),codeAmong pos ps.toList=some cv->∃ c,cv=.ref c/\G c=some (LamX.CodeO c q)
inductive Kd where
  | src (c:Addr) | tab (q:Str) | mt (C:Addr)
abbrev So:=List (Addr × Kd)
def So.Vol (so:So) (a:Addr):Prop:=∃ k,(a,k)∈so
abbrev So.Nt (so:So) (a:Addr):Prop:=¬ so.Vol a
def So.Nq (so:So) (a:Addr):Prop:=∀ k,(a,k)∈so->∃ C,k=.mt C
theorem So.Nt.q {so:So} {a:Addr} (h:so.Nt a):so.Nq a:=fun k e=>absurd ⟨k,e⟩ h
def lamNames:List Str:=["law","Tableau.improve","Ways.layer_step","_law_layer_step","plain_forms","_law_triangles","_law_case_layer","_law_fact_row","needless","exchangeable","_law_may","_law_set","_law_joined_due","_law_kept_by_hand"]
def lamFns (K:PySem.W.Frag):List (Addr × Addr × Str):=K.filterMap fun p=>match p.2.data with
  | .func fd=>(match fd.code with
    | .ref c=>if lamNames.contains fd.qualname then some (c,He.tabOf K c,fd.qualname++".<locals>."++"<lambda>") else none
    | _=>none)
  | _=>none
structure SoOk (K:PySem.W.Frag) (so:So):Prop where
  tb:∀ q∈lamFns K,(q.2.1,Kd.tab q.2.2)∈so
  uq:∀ a k k',(a,k)∈so->(a,k')∈so->k=k'
def KOk (K:PySem.W.Frag) (G H:Hp) (a:Addr):Kd->Prop
  | .src c=>SrcOk K G H a c
  | .tab q=>TabOk G H a q
  | .mt C=>G a=none/\((∃ dx vs,H a=some (.ins C dx vs)/\G dx=some (.own a))\/∃ vs,H a=some (.lst vs)\/(∃ ks,H a=some (.dK ks))\/∃ ks,H a=some (.dT ks))
theorem KOk.g {K:PySem.W.Frag} {G H:Hp} {a:Addr} {k:Kd} (h:KOk K G H a k):G a=none:=by
  cases k with
  | src c=>exact h.1
  | tab q=>exact h.1
  | mt C=>exact h.1
theorem KOk.there {K:PySem.W.Frag} {G H:Hp} {a:Addr} {k:Kd} (h:KOk K G H a k):H a≠none:=by
  cases k with
  | src c=>obtain ⟨_,_,_,_,_,_,e,_⟩:=h;rw [e];simp
  | tab q=>obtain ⟨_,_,e,_⟩:=h;rw [e];simp
  | mt C=>obtain ⟨_,⟨_,_,e,_⟩ | ⟨_,e | ⟨_,e⟩ | ⟨_,e⟩⟩⟩:=h<;>(rw [e];simp)
theorem KOk.keep {K:PySem.W.Frag} {H H' G G':Hp} {a:Addr} {k:Kd} (s:KOk K G H a k) (e:Ex G G') (g:G' a=none) (q:H' a=H a):KOk K G' H' a k:=by
  cases k with
  | src c=>
    obtain ⟨_,ns,i,r,sd,n,h1,h2,h3⟩:=s
    exact ⟨g,ns,i,r,sd,n,by rw [q];exact h1,ex_l e h2,h3⟩
  | tab z=>
    obtain ⟨_,ps,h1,h2,h3⟩:=s
    exact ⟨g,ps,by rw [q];exact h1,h2,fun pos cv hc=>let ⟨c,e1,e2⟩:=h3 pos cv hc;⟨c,e1,e _ _ e2⟩⟩
  | mt C=>
    obtain ⟨_,⟨dx,vs,h1,h2⟩ | ⟨vs,h⟩⟩:=s
    · exact ⟨g,.inl ⟨dx,vs,by rw [q];exact h1,e _ _ h2⟩⟩
    · exact ⟨g,.inr ⟨vs,by rw [q];exact h⟩⟩
def VOk (K:PySem.W.Frag) (G:Hp) (so:So) (H:Hp) (v:V):DV->Prop
  | .d x=>DOk K G v x
  | .src=>∃ a,(∃ c,(a,.src c)∈so)/\v=.ref a
  | .own o=>∃ a,v=.ref a/\G a=none/\so.Nt a/\OwnOk K G H a o
  | .bor o=>∃ a,v=.ref a/\so.Nt a/\BorOk K G H a o
  | .see o=>∃ a,v=.ref a/\so.Nt a/\SeeOk K G H a o
  | .mu _ _ _=>False
  | .gh _ _=>False
def SlOk (K:PySem.W.Frag) (G:Hp) (so:So) (H:Hp) (v:V):DV->Prop
  | .mu x C fs=>v=.ref x/\(x,.mt C)∈so/\∃ dx vs,H x=some (.ins C dx vs)/\FAll K G vs fs
  | .gh x r=>v=.ref x/\(∀ a∈r.as,(a,.mt (r.kd a))∈so/\H a≠none)/\r.R K G H
  | dv=>VOk K G so H v dv
structure HRep (K:PySem.W.Frag) (G:Hp) (so:So) (H:Hp):Prop where
  ex:Ex G H
  vol:∀ a k,(a,k)∈so->KOk K G H a k
  ok:SoOk K so
  tp:∀ a xs,H a=some (.tup xs)->G a=some (.tup xs)
theorem afE {G H:Hp} {a:Addr} {o:HO} (h:∀ b xs,H b=some (.tup xs)->G b=some (.tup xs)) (nt:∀ xs,o≠.tup xs):∀ b xs,(upd H a o) b=some (.tup xs)->G b=some (.tup xs):=fun b xs e=>by
  by_cases z:b=a
  · subst z;rw [upd_same] at e;exact absurd (Option.some.inj e) (nt xs)
  · rw [upd_ne z] at e;exact h b xs e
theorem tp_G {G H:Hp} {a:Addr} {u:HO} (h:∀ b xs,H b=some (.tup xs)->G b=some (.tup xs)) (ga:G a=none):∀ b xs,H b=some (.tup xs)->(upd G a u) b=some (.tup xs):=fun b xs e=>by
  have g:=h b xs e
  rw [upd_ne (fun z=>by rw [z,ga] at g;cases g)];exact g
theorem ahH {G H:Hp} {a:Addr} {o:HO} (h:∀ b xs,H b=some (.tup xs)->G b=some (.tup xs)):∀ b xs,(upd H a o) b=some (.tup xs)->(upd G a o) b=some (.tup xs):=fun b xs e=>by
  by_cases z:b=a
  · subst z;rw [upd_same] at e ⊢;exact e
  · rw [upd_ne z] at e ⊢;exact h b xs e
theorem HRep.nsrc {K:PySem.W.Frag} {G:Hp} {so:So} {H:Hp} (h:HRep K G so H) {a:Addr} {o:HO} (q:G a=some o):so.Nt a:=fun ⟨k,z⟩=>by
  rw [(h.vol a k z).g] at q;cases q
theorem HRep.there {K:PySem.W.Frag} {G:Hp} {so:So} {H:Hp} (h:HRep K G so H) {a:Addr} (q:H a=none):so.Nt a:=fun ⟨k,z⟩=>(h.vol a k z).there q
theorem HRep.vth {K:PySem.W.Frag} {G:Hp} {so:So} {H:Hp} (h:HRep K G so H) {a:Addr} (s:so.Vol a):H a≠none:=fun q=>h.there q s
abbrev DSt:=List (Option DV)
def Own (sl:DSt) (σ:L2.St) (a:Addr):Prop:=∃ (i:Nat) (o:OO),sl[i]?=some (some (.own o))/\σ[i]?=some (some (.ref a))
structure Rep (K:PySem.W.Frag) (G:Hp) (so:So) (σ:L2.St) (H:Hp) (sl:DSt):Prop where
  h:HRep K G so H
  len:sl.length=σ.length
  slots:∀ (i:Nat) (dv:DV),sl[i]?=some (some dv)->∃ v,σ[i]?=some (some v)/\SlOk K G so H v dv
  sep:∀ (i j:Nat) (o o':OO) (a:Addr),sl[i]?=some (some (.own o))->sl[j]?=some (some (.own o'))->σ[i]?=some (some (.ref a))->σ[j]?=some (some (.ref a))->i=j
  bor:∀ (i:Nat) (o:OO) (a:Addr),sl[i]?=some (some (.bor o))->σ[i]?=some (some (.ref a))->¬ Own sl σ a
  nse:∀ (i:Nat) (o:OO),sl[i]?≠some (some (.see o))
structure Post (K:PySem.W.Frag) (G:Hp) (so:So) (σ:L2.St) (H:Hp) (sl:DSt) (H' G':Hp) (sl':DSt):Prop where
  ex:Ex G G'
  rep:Rep K G' so σ H' sl'
  keep:∀ a o,H a=some o->so.Nt a->H' a=some o
  frm:∀ a,H a≠none->G a=none->so.Nt a->¬ Own sl σ a->G' a=none
  sub:∀ a,Own sl' σ a->Own sl σ a
  bsub:∀ (i:Nat) (o:OO),sl'[i]?=some (some (.bor o))->∃ o',sl[i]?=some (some (.bor o'))
structure PostE (K:PySem.W.Frag) (G:Hp) (so:So) (σ:L2.St) (H:Hp) (sl:DSt) (v:V) (H' G':Hp) (dv:DV) (sl':DSt):Prop extends Post K G so σ H sl H' G' sl' where
  val:VOk K G' so H' v dv
  new:∀ a o,dv=.own o->v=.ref a->H a=none\/Own sl σ a
  sepv:∀ a o,dv=.own o\/dv=.bor o->v=.ref a->¬ Own sl' σ a
  nbs:∀ (a:Addr) (o:OO) (i:Nat) (o':OO),dv=.own o->v=.ref a->sl'[i]?=some (some (.bor o'))->σ[i]?=some (some (.ref a))->False
section
variable {K:PySem.W.Frag} {G G1 G2:Hp} {so:So} {σ:L2.St} {H H1 H2:Hp} {sl s1 s2:DSt} {v x y:V} {dv dx dy:DV}
theorem Rep.nown (r:Rep K G so σ H sl) {a:Addr} (h:Own sl σ a):H a≠none/\G a=none/\so.Nt a:=by
  obtain ⟨i,o,e1,e2⟩:=h
  obtain ⟨v,e3,e4⟩:=r.slots i _ e1
  rw [e2] at e3;cases e3
  obtain ⟨b,q,g,s,k⟩:=e4
  cases q
  exact ⟨k.there,g,s⟩
theorem Post.refl (r:Rep K G so σ H sl):Post K G so σ H sl H G sl:=⟨Ex.refl G,r,fun _ _ e _=>e,fun _ _ g _ _=>g,fun _ o=>o,fun _ o e=>⟨o,e⟩⟩
theorem agC {H H':Hp} {so:So} (k:∀ a o,H a=some o->so.Nq a->H' a=some o) {a:Addr} (n:H a≠none) (s:so.Nq a):H' a=H a:=by
  cases q:H a with
  | none=>exact absurd q n
  | some o=>exact k a o q s
theorem abF {H H':Hp} {so:So} (k:∀ a o,H a=some o->so.Nt a->H' a=some o) {a:Addr} (n:H a≠none) (s:so.Nt a):H' a=H a:=by
  cases q:H a with
  | none=>exact absurd q n
  | some o=>exact k a o q s
theorem Post.trans (a:Post K G so σ H sl H1 G1 s1) (b:Post K G1 so σ H1 s1 H2 G2 s2):Post K G so σ H sl H2 G2 s2:=
  ⟨a.ex.trans b.ex,b.rep,fun c o e s=>b.keep c o (a.keep c o e s) s,fun c n g s w=>by
    have n1:H1 c≠none:=by rw [abF a.keep n s];exact n
    exact b.frm c n1 (a.frm c n g s w) s fun z=>w (a.sub c z),fun c o=>a.sub c (b.sub c o),fun i o e=>let ⟨o1,e1⟩:=b.bsub i o e;a.bsub i o1 e1⟩
theorem VOk.keep (h:VOk K G so H x dx) (e:Ex G G1) (k:∀ a o,H a=some o->so.Nt a->H1 a=some o) (g:∀ a o,dx=.own o->x=.ref a->G1 a=none):VOk K G1 so H1 x dx:=by
  cases dx with
  | d z=>exact DOk.mono e h
  | src=>exact h
  | own o=>
    obtain ⟨a,q,q1,q2,q3⟩:=h
    exact ⟨a,q,g a o rfl q,q2,q3.keep e (abF k q3.there q2)⟩
  | bor o=>
    obtain ⟨a,q,q2,q3⟩:=h
    exact ⟨a,q,q2,q3.keep e (abF k q3.there q2)⟩
  | see o=>
    obtain ⟨a,q,q2,q3⟩:=h
    exact ⟨a,q,q2,q3.keep e (abF k q3.there q2)⟩
  | mu y C fs=>exact h
  | gh y r=>exact h
theorem SlOk.keep (h:SlOk K G so H x dx) (ok:SoOk K so) (e:Ex G G1) (k:∀ a o,H a=some o->so.Nq a->H1 a=some o) (g:∀ a o,dx=.own o->x=.ref a->G1 a=none):SlOk K G1 so H1 x dx:=by
  have k':∀ a o,H a=some o->so.Nt a->H1 a=some o:=fun a o e s=>k a o e s.q
  cases dx with
  | mu y C fs=>
    obtain ⟨q,m,dx,vs,h1,h2⟩:=h
    exact ⟨q,m,dx,vs,k y _ h1 fun k' e'=>⟨C,ok.uq y k' (.mt C) e' m⟩,h2.mono e⟩
  | gh y r=>
    obtain ⟨q,m,h1⟩:=h
    have kp:∀ a∈r.as,H1 a=H a:=fun a ha=>by
      obtain ⟨m1,m2⟩:=m a ha
      obtain ⟨o,z⟩:=Option.ne_none_iff_exists'.mp m2
      rw [z,k a o z fun k' e'=>⟨r.kd a,ok.uq a k' (.mt (r.kd a)) e' m1⟩]
    exact ⟨q,fun a ha=>⟨(m a ha).1,by rw [kp a ha];exact (m a ha).2⟩,r.st K G G1 H H1 e kp h1⟩
  | d z=>exact VOk.keep (dx:=.d z) h e k' g
  | src=>exact VOk.keep (K:=K) (dx:=.src) h e k' g
  | own o=>exact VOk.keep (dx:=.own o) h e k' g
  | bor o=>exact VOk.keep (dx:=.bor o) h e k' g
  | see o=>exact VOk.keep (dx:=.see o) h e k' g
theorem SlOk.val (h:SlOk K G so H x dx) (n:∀ y C fs,dx≠.mu y C fs) (n2:∀ y r,dx≠.gh y r):VOk K G so H x dx:=by
  cases dx with
  | mu y C fs=>exact absurd rfl (n y C fs)
  | gh y r=>exact absurd rfl (n2 y r)
  | _=>exact h
theorem VOk.slot (h:VOk K G so H x dx):SlOk K G so H x dx:=by
  cases dx with
  | mu y C fs=>exact h.elim
  | gh y r=>exact h.elim
  | _=>exact h
theorem SlOk.muU {a y C:Addr} {o:HO} {fs:List (Str × D)} (h:SlOk K G so H x (.mu y C fs)) (e:Ex G G1) (n:so.Nt a):SlOk K G1 so (upd H a o) x (.mu y C fs):=by
  obtain ⟨q,m,dx,vs,h1,h2⟩:=h
  exact ⟨q,m,dx,vs,by rw [upd_ne (fun z=>n ⟨_,z ▸ m⟩)];exact h1,h2.mono e⟩
theorem SlOk.ghU {a y:Addr} {o:HO} {r:GR} (h:SlOk K G so H x (.gh y r)) (e:Ex G G1) (n:so.Nt a):SlOk K G1 so (upd H a o) x (.gh y r):=by
  obtain ⟨q,m,h1⟩:=h
  have kp:∀ b∈r.as,upd H a o b=H b:=fun b hb=>upd_ne (fun z=>n ⟨_,z ▸ (m b hb).1⟩)
  exact ⟨q,fun b hb=>⟨(m b hb).1,by rw [kp b hb];exact (m b hb).2⟩,r.st K G G1 H _ e kp h1⟩
theorem PostE.over (a:PostE K G so σ H sl x H1 G1 dx s1) (b:Post K G1 so σ H1 s1 H2 G2 s2):VOk K G2 so H2 x dx:=
  a.val.keep b.ex b.keep fun c o e q=>by
    have w:VOk K G1 so H1 x dx:=a.val
    rw [e] at w
    obtain ⟨c',q',g,s,k⟩:=w
    rw [q] at q';cases q'
    exact b.frm c k.there g s (a.sepv c o (.inl e) q)
end
structure PostV (K:PySem.W.Frag) (G:Hp) (so:So) (H:Hp) (v:V) (H' G':Hp) (dv:DV):Prop where
  ex:Ex G G'
  hrep:HRep K G' so H'
  keep:∀ a o,H a=some o->so.Nq a->H' a=some o
  frm:∀ a,H a≠none->G a=none->so.Nt a->G' a=none
  val:VOk K G' so H' v dv
  new:∀ a o,dv=.own o->v=.ref a->H a=none
  nob:∀ o,dv≠.bor o
section
variable {K:PySem.W.Frag} {G G':Hp} {so:So} {σ:L2.St} {H H':Hp} {sl:DSt} {v:V} {dv:DV}
theorem PostV.slots (p:PostV K G so H v H' G' dv) (r:Rep K G so σ H sl):PostE K G so σ H sl v H' G' dv sl where
  ex:=p.ex
  rep:=⟨p.hrep,r.len,fun i d e=>by
    obtain ⟨w,e1,e2⟩:=r.slots i d e
    refine ⟨w,e1,SlOk.keep e2 r.h.ok p.ex p.keep fun a o ed q=>?_⟩
    subst ed
    subst q
    obtain ⟨n,g,s⟩:=r.nown ⟨i,o,e,e1⟩
    exact p.frm a n g s,r.sep,r.bor,r.nse⟩
  keep:=fun a o e s=>p.keep a o e s.q
  frm:=fun a n g s _=>p.frm a n g s
  sub:=fun _ o=>o
  bsub:=fun _ o e=>⟨o,e⟩
  val:=p.val
  new:=fun a o e q=>.inl (p.new a o e q)
  sepv:=fun a o e q z=>e.elim (fun e=>(r.nown z).1 (p.new a o e q)) fun e=>p.nob o e
  nbs:=fun a o i o' e q e1 e2=>by
    obtain ⟨w,f1,f2⟩:=r.slots i _ e1
    rw [e2] at f1;cases f1
    obtain ⟨b,z,_,k⟩:=f2
    cases z
    exact k.there (p.new a o e q)
theorem PostV.pure (h:HRep K G so H) (w:VOk K G so H v dv) (n:∀ o,dv≠.own o) (m:∀ o,dv≠.bor o):PostV K G so H v H G dv:=
  ⟨Ex.refl G,h,fun _ _ e _=>e,fun _ _ g _=>g,w,fun _ o e=>absurd e (n o),m⟩
theorem PostV.dat {x:D} (h:HRep K G so H) (w:DOk K G v x):PostV K G so H v H G (.d x):=.pure h w (fun _ e=>(nomatch e)) fun _ e=>(nomatch e)
theorem HRep.alloc {p:Addr} {o:HO} (h:HRep K G so H) (n:H p=none) (nt:∀ xs,o≠.tup xs:=by intro _ z;cases z):HRep K G so (upd H p o):=
  ⟨h.ex.trans (Ex.new n),fun a k e=>(h.vol a k e).keep (Ex.refl G) (h.vol a k e).g (upd_ne fun z=>h.there n (z ▸ ⟨k,e⟩)),h.ok,afE h.tp nt⟩
theorem HRep.allocG {p:Addr} {o:HO} (h:HRep K G so H) (n:H p=none):HRep K (upd G p o) so (upd H p o):=
  ⟨h.ex.up,fun a k e=>
    have z:a≠p:=fun z=>h.there n (z ▸ ⟨k,e⟩)
    (h.vol a k e).keep (Ex.new (h.ex.free n)) (by rw [upd_ne z];exact (h.vol a k e).g) (upd_ne z),h.ok,ahH h.tp⟩
theorem PostV.list {p:Addr} {vs:List V} {ds:List D} (h:HRep K G so H) (n:H p=none) (a:DAll K G vs ds):PostV K G so H (.ref p) (upd H p (.lst vs)) G (.own (.lst ds)):=
  ⟨Ex.refl G,h.alloc n,fun _ _ e _=>Ex.new n _ _ e,fun _ _ g _=>g,⟨p,rfl,h.ex.free n,h.there n,vs,upd_same,a⟩,fun b o e q=>(by cases q;exact n),fun _ e=>(nomatch e)⟩
theorem PostV.tuple {p:Addr} {vs:List V} {ds:List D} (h:HRep K G so H) (n:H p=none) (a:DAll K G vs ds):PostV K G so H (.ref p) (upd H p (.tup vs)) (upd G p (.tup vs)) (.d (.tup ds)):=
  ⟨Ex.new (h.ex.free n),h.allocG n,fun _ _ e _=>Ex.new n _ _ e,fun b q g _=>by rw [upd_ne (fun z=>by subst z;exact q n)];exact g,
    .tup (SqT.of upd_same) (a.mono (Ex.new (h.ex.free n))),fun _ o e=>(nomatch e),fun _ e=>(nomatch e)⟩
theorem PostV.trans {v1 v2:V} {d1 d2:DV} {H1 H2 G1 G2:Hp} (a:PostV K G so H v1 H1 G1 d1) (b:PostV K G1 so H1 v2 H2 G2 d2):PostV K G so H v2 H2 G2 d2:=
  ⟨a.ex.trans b.ex,b.hrep,fun c o e s=>b.keep c o (a.keep c o e s) s,fun c n g s=>b.frm c (by rw [agC a.keep n s.q];exact n) (a.frm c n g s) s,b.val,fun c o e q=>by
    cases z:H c with
    | none=>rfl
    | some u=>
      have n:=b.new c o e q
      by_cases s:so.Vol c
      · exact absurd n (a.hrep.vth s)
      · rw [a.keep c u z (So.Nt.q s)] at n
        exact (nomatch n),b.nob⟩
theorem PostV.publish {ds:List D} (p:PostV K G so H v H' G' (.own (.lst ds))):∃ G2,PostV K G so H v H' G2 (.d (.lst ds)):=by
  obtain ⟨a,rfl,g,s,vs,e,al⟩:=p.val
  refine ⟨upd G' a (.lst vs),p.ex.trans (Ex.new g),⟨fun b o q=>?_,fun b k e'=>?_,p.hrep.ok,tp_G p.hrep.tp g⟩,p.keep,fun b n gb sb=>?_,.lst upd_same (al.mono (Ex.new g)),fun _ o e=>(nomatch e),fun _ e=>(nomatch e)⟩
  · by_cases z:b=a
    · subst z;rw [upd_same] at q;cases q;exact e
    · rw [upd_ne z] at q;exact p.hrep.ex b o q
  · have z:b≠a:=fun z=>s (z ▸ ⟨k,e'⟩)
    exact (p.hrep.vol b k e').keep (Ex.new g) (by rw [upd_ne z];exact (p.hrep.vol b k e').g) rfl
  · have z:b≠a:=fun z=>by subst z;exact n (p.new b _ rfl rfl)
    rw [upd_ne z];exact p.frm b n gb sb
end
def tpUp (G H2:Hp):Hp:=fun b=>match H2 b with
  | some (.tup xs)=>some (.tup xs)
  | _=>G b
section
variable {K:PySem.W.Frag} {G:Hp} {so:So} {H H2:Hp}
end
abbrev XP:=Value->List (Str × D)->DSt->Prop
abbrev TD:=DSt->(DV->DSt->Prop)->XP->Prop
abbrev TDT:=DSt->(Bool->DSt->Prop)->XP->Prop
abbrev TDA:=DSt->(List DV->DSt->Prop)->XP->Prop
structure EndsD where
  nx:DSt->Prop
  rt:DV->DSt->Prop
  bk:DSt->Prop
  ct:DSt->Prop
  xc:XP
abbrev TDS:=EndsD->DSt->Prop
def XdOk (K:PySem.W.Frag) (G H:Hp):Option Addr->List (Str × D)->Prop
  | some dx,fs=>∃ vs,H dx=some (.xd vs)/\FAll K G vs fs
  | none,fs=>fs=[]
def XOk (K:PySem.W.Frag) (W:WX) (G:Hp) (so:So) (σ:L2.St) (H:Hp) (sl:DSt) (E:XP):Prop:=
  ∀ cls d H' G' fs sl',Post K G so σ H sl H' G' sl'->XdOk K G' H' d fs->E cls fs sl'->W cls d σ H'
inductive VsOk (K:PySem.W.Frag) (G:Hp) (so:So) (H:Hp):List V->List DV->Prop
  | nil:VsOk K G so H [] []
  | cons {v:V} {d:DV} {vs:List V} {ds:List DV}:VOk K G so H v d->(∀ o,d≠.own o)->VsOk K G so H vs ds->VsOk K G so H (v::vs) (d::ds)
section
variable (K:PySem.W.Frag) (W:WX)
def up (t:TD):TE:=fun σ H R=>∃ G so sl Q E,Rep K G so σ H sl/\t sl Q E/\(∀ v H' G' dv sl',PostE K G so σ H sl v H' G' dv sl'->Q dv sl'->R v H')/\XOk K W G so σ H sl E
def upT (t:TDT):TT:=fun σ H R=>∃ G so sl Q E,Rep K G so σ H sl/\t sl Q E/\(∀ b H' G' sl',Post K G so σ H sl H' G' sl'->Q b sl'->R b H')/\XOk K W G so σ H sl E
def upA (t:TDA):TA:=fun σ H R=>∃ G so sl Q E,Rep K G so σ H sl/\t sl Q E/\(∀ vs H' G' ds sl',Post K G so σ H sl H' G' sl'->VsOk K G' so H' vs ds->Q ds sl'->R vs H')/\XOk K W G so σ H sl E
end
def DE (X:Cx) (W:WX) (e:Expr) (t:TD):Prop:=PE X e (up X.K W t)
def DT (X:Cx) (W:WX) (e:Expr) (t:TDT):Prop:=PT X e (upT X.K W t)
def DA (X:Cx) (W:WX) (es:List Expr) (t:TDA):Prop:=PA X es (upA X.K W t)
theorem abD {X:Cx} {e:Expr} {t t':TE} (h:PE X e t) (f:∀ σ H R,t' σ H R->t σ H R):PE X e t':=⟨fun pins s σ H Q I q=>h.run pins s σ H Q I (f _ _ _ q)⟩
theorem agn {X:Cx} {e:Expr} {t t':TT} (h:PT X e t) (f:∀ σ H R,t' σ H R->t σ H R):PT X e t':=⟨fun pins s σ H Q I q=>h.run pins s σ H Q I (f _ _ _ q)⟩
theorem ahp {X:Cx} {es:List Expr} {t t':TA} (h:PA X es t) (f:∀ σ H R,t' σ H R->t σ H R):PA X es t':=⟨fun pos pins s σ H Q I q=>h.run pos pins s σ H Q I (f _ _ _ q)⟩
theorem agq {X:Cx} {e:Stmt} {t t':TS} (h:PS X e t) (f:∀ D σ H,t' D σ H->t D σ H):PS X e t':=⟨fun pins s σ H Q I q=>h.run pins s σ H Q I (f _ _ _ q)⟩
theorem ago {X:Cx} {e:List Stmt} {t t':TS} (h:PSs X e t) (f:∀ D σ H,t' D σ H->t D σ H):PSs X e t':=⟨fun pins s σ H Q I q=>h.run pins s σ H Q I (f _ _ _ q)⟩
section
variable {K:PySem.W.Frag} {W:WX} {G G1 G2:Hp} {so:So} {σ:L2.St} {H H1 H2:Hp} {sl s1 s2:DSt} {v x y:V} {dv dx dy:DV} {E:XP}
theorem XOk.step (h:XOk K W G so σ H sl E) (p:Post K G so σ H sl H1 G1 s1):XOk K W G1 so σ H1 s1 E:=fun cls d H' G' fs sl' q a b=>h cls d H' G' fs sl' (p.trans q) a b
theorem Post.back (a:Post K G so σ H sl H1 G1 s1) {c:Addr} (n:H1 c=none):H c=none:=by
  cases z:H c with
  | none=>rfl
  | some u=>
    by_cases s:so.Vol c
    · exact absurd n (a.rep.h.vth s)
    · rw [a.keep c u z s] at n;cases n
theorem Post.thenE (a:Post K G so σ H sl H1 G1 s1) (b:PostE K G1 so σ H1 s1 v H2 G2 dv s2):PostE K G so σ H sl v H2 G2 dv s2:=
  { a.trans b.toPost with
    val:=b.val
    new:=fun c o e q=>(b.new c o e q).imp a.back (a.sub c)
    sepv:=b.sepv
    nbs:=b.nbs }
theorem Post.thenV (a:Post K G so σ H sl H1 G1 s1) (b:PostV K G1 so H1 v H2 G2 dv):PostE K G so σ H sl v H2 G2 dv s1:=a.thenE (b.slots a.rep)
theorem VsOk.keep:∀ {vs:List V} {ds:List DV},VsOk K G so H vs ds->Ex G G1->(∀ a o,H a=some o->so.Nt a->H1 a=some o)->VsOk K G1 so H1 vs ds
  | _,_,.nil,_,_=>.nil
  | _,_,.cons h n t,e,k=>.cons (h.keep e k fun a o q=>absurd q (n o)) n (VsOk.keep t e k)
theorem VsOk.length:∀ {vs:List V} {ds:List DV},VsOk K G so H vs ds->vs.length=ds.length
  | _,_,.nil=>rfl
  | _,_,.cons _ _ t=>congrArg (· + 1) (VsOk.length t)
end
def pubO:OO->D
  | .lst ds=>.lst ds
  | .ins _ C fs=>.ins C fs
  | .dk _=>.any
  | .dt _=>.any
def pubV:DV->DV
  | .own o=>.d (pubO o)
  | x=>x
theorem afG (dv:DV):∀ o,pubV dv≠.own o:=fun o h=>by cases dv<;>cases h
section
variable {K:PySem.W.Frag} {W:WX} {G G1 G2:Hp} {so:So} {σ:L2.St} {H H1 H2:Hp} {sl s1 s2:DSt} {v x y:V} {dv dx dy:DV} {E:XP}
theorem ahq {a:Addr} {o:OO} (h:OwnOk K G H a o) (g:G a=none):∃ u,H a=some u/\DOk K (upd G a u) (.ref a) (pubO o):=by
  cases o with
  | lst ds=>obtain ⟨vs,e,r⟩:=h;exact ⟨_,e,.lst upd_same (r.mono (Ex.new g))⟩
  | ins x C fs=>obtain ⟨_,dx,vs,e,gd,r⟩:=h;exact ⟨_,e,.ins upd_same (Ex.new g _ _ gd) (r.mono (Ex.new g))⟩
  | dk kvs=>obtain ⟨vs,e,r⟩:=h;exact ⟨_,e,.any _⟩
  | dt kvs=>obtain ⟨vs,e,r⟩:=h;exact ⟨_,e,.any _⟩
theorem afM {a:Addr} {u:HO} (h:HRep K G so H) (e:H a=some u) (g:G a=none) (s:so.Nt a):HRep K (upd G a u) so H:=
  ⟨fun b o q=>by
    by_cases z:b=a
    · subst z;rw [upd_same] at q;cases q;exact e
    · rw [upd_ne z] at q;exact h.ex b o q,
  fun b k q=>by
    have z:b≠a:=fun z=>s (z ▸ ⟨k,q⟩)
    exact (h.vol b k q).keep (Ex.new g) (by rw [upd_ne z];exact (h.vol b k q).g) rfl,h.ok,tp_G h.tp g⟩
theorem ahP {a:Addr} {u:HO} (r:Rep K G so σ H sl) (e:H a=some u) (g:G a=none) (s:so.Nt a) (n:¬ Own sl σ a):Rep K (upd G a u) so σ H sl:=
  ⟨afM r.h e g s,r.len,fun i d q=>by
    obtain ⟨w,e1,e2⟩:=r.slots i d q
    refine ⟨w,e1,SlOk.keep e2 r.h.ok (Ex.new g) (fun _ _ z _=>z) fun b o ed qb=>?_⟩
    subst ed;subst qb
    have z:b≠a:=fun z=>n ⟨i,o,q,z ▸ e1⟩
    rw [upd_ne z];exact (r.nown ⟨i,o,q,e1⟩).2.1,r.sep,r.bor,r.nse⟩
theorem PostE.pub (p:PostE K G so σ H sl v H1 G1 dv s1):∃ G2,PostE K G so σ H sl v H1 G2 (pubV dv) s1:=by
  cases dv with
  | d x=>exact ⟨G1,p⟩
  | src=>exact ⟨G1,p⟩
  | bor o=>exact ⟨G1,p⟩
  | see o=>exact ⟨G1,p⟩
  | mu _ _ _=>exact ⟨G1,p⟩
  | gh _ _=>exact ⟨G1,p⟩
  | own o=>
    obtain ⟨a,q,g,s,ok⟩:=p.val
    subst q
    obtain ⟨u,e,dk⟩:=ahq ok g
    have n:=p.sepv a o (.inl rfl) rfl
    refine ⟨upd G1 a u,{ ex:=p.ex.trans (Ex.new g),rep:=ahP p.rep e g s n,keep:=p.keep,frm:=fun b n1 g1 s1' w=>?_,sub:=p.sub,bsub:=p.bsub,val:=dk,new:=fun _ o' e'=>(nomatch e'),sepv:=fun _ o' e'=>e'.elim (fun e'=>(nomatch e')) fun e'=>(nomatch e'),nbs:=fun _ _ _ _ e'=>(nomatch e') }⟩
    have z:b≠a:=fun z=>by
      subst z
      rcases p.new b o rfl rfl with k | k
      · exact n1 k
      · exact w k
    rw [upd_ne z];exact p.frm b n1 g1 s1' w
end
def dC (x:D):TD:=fun sl Q _=>Q (.d x) sl
def dVar (i:Nat):TD:=fun sl Q _=>match sl[i]? with
  | some (some (.own o))=>Q (.d (pubO o)) (sl.set i (some (.d (pubO o))))
  | some (some (.mu _ _ _))=>False
  | some (some (.gh _ _))=>False
  | some (some dv)=>Q dv sl
  | _=>False
def dSee (i:Nat):TD:=fun sl Q _=>match sl[i]? with
  | some (some (.own o))=>Q (.see o) sl
  | some (some (.mu _ _ _))=>False
  | some (some (.gh _ _))=>False
  | some (some dv)=>Q dv sl
  | _=>False
section
variable {K:PySem.W.Frag} {W:WX} {G G1 G2:Hp} {so:So} {σ:L2.St} {H H1 H2:Hp} {sl s1 s2:DSt} {v x y:V} {dv dx dy:DV} {E:XP} {X:Cx}
theorem de_c {e:Expr} {u:V} {d:D} (h:PE X e (tC u)) (r:∀ G,DOk X.K G u d):DE X W e (dC d):=abD h fun σ H R ⟨G,so,sl,Q,E,rep,q,hq,_⟩=>
  hq u H G _ sl ((Post.refl rep).thenV (.dat rep.h (r G))) q
theorem abQ {i:Int} {j:Nat} {pos:Pos}:DE X W (.Constant (.int i) j pos) (dC (.int i)):=de_c pe_int fun _=>.int _
theorem abT {b:Bool} {j:Nat} {pos:Pos}:DE X W (.Constant (.bool b) j pos) (dC (.bl b)):=de_c pe_bl fun _=>.bl _
theorem ahy {j:Nat} {pos:Pos}:DE X W (.Constant .none j pos) (dC .non):=de_c pe_non fun _=>.non
theorem aad {x:Str} {j:Nat} {pos:Pos}:DE X W (.Constant (.str x) j pos) (dC (.str x)):=de_c pe_str fun _=>.str _
theorem VOk.see {o:OO} (h:VOk K G so H v (.own o)):VOk K G so H v (.see o):=by
  obtain ⟨a,q,_,s,k⟩:=h
  exact ⟨a,q,s,k⟩
theorem PostE.here (rep:Rep K G so σ H sl) (w:VOk K G so H v dv) (n:∀ o,dv≠.own o) (m:∀ a o,dv=.bor o->v=.ref a->¬ Own sl σ a):PostE K G so σ H sl v H G dv sl:=
  { Post.refl rep with
    val:=w
    new:=fun _ o e=>absurd e (n o)
    sepv:=fun a o e q=>e.elim (fun e=>absurd e (n o)) fun e=>m a o e q
    nbs:=fun _ o _ _ e=>absurd e (n o) }
theorem own_set {i:Nat} {d:D} {a:Addr} (h:Own (sl.set i (some (.d d))) σ a):Own sl σ a/\σ[i]?≠some (some (.ref a))\/(Own sl σ a/\∃ j,j≠i/\∃ o,sl[j]?=some (some (.own o))/\σ[j]?=some (some (.ref a))):=by
  obtain ⟨j,o,e1,e2⟩:=h
  have ne:j≠i:=fun z=>by
    subst z
    rw [List.getElem?_set] at e1
    split at e1
    · split at e1<;>cases e1
    · rename_i k;exact k rfl
  rw [List.getElem?_set_ne ne.symm] at e1
  exact .inr ⟨⟨j,o,e1,e2⟩,j,ne,o,e1,e2⟩
theorem aaG {i:Nat} {n:Str} {pos:Pos} (h:PE X (.Name n pos) (tVar i)):DE X W (.Name n pos) (dVar i):=abD h fun σ H R ⟨G,so,sl,Q,E,rep,q,hq,_⟩=>by
  unfold dVar at q
  split at q
  · rename_i o e
    obtain ⟨v,e1,w⟩:=rep.slots i _ e
    refine ⟨v,e1,?_⟩
    obtain ⟨a,qa,g,s,ok⟩:=w
    subst qa
    obtain ⟨u,eu,dk⟩:=ahq ok g
    have others:∀ b,Own (sl.set i (some (.d (pubO o)))) σ b->Own sl σ b/\b≠a:=fun b z=>by
      rcases own_set z with ⟨k1,k2⟩ | ⟨k1,j,ne,o',k2,k3⟩
      · exact ⟨k1,fun z=>k2 (z ▸ e1)⟩
      · exact ⟨k1,fun z=>ne (rep.sep j i o' o a k2 e (z ▸ k3) e1)⟩
    refine hq _ H (upd G a u) _ _ ?_ q
    refine { ex:=Ex.new g,rep:=⟨afM rep.h eu g s,by rw [List.length_set];exact rep.len,fun j d ej=>?_,fun j k o1 o2 b e1' e2' e3 e4=>?_,fun j o1 b e1' e2' z=>?_,fun j o1 z=>?_⟩,keep:=fun _ _ z _=>z,frm:=fun b n1 g1 s1 w=>?_,sub:=fun b z=>(others b z).1,bsub:=fun j o1 z=>?_,val:=dk,new:=fun _ o' e'=>(nomatch e'),sepv:=fun _ o' e'=>e'.elim (fun e'=>(nomatch e')) fun e'=>(nomatch e'),nbs:=fun _ _ _ _ e'=>(nomatch e') }
    · by_cases ji:j=i
      · subst ji
        rw [List.getElem?_set] at ej
        split at ej
        · split at ej
          · cases ej;exact ⟨_,e1,dk⟩
          · cases ej
        · rename_i k;exact absurd rfl k
      · rw [List.getElem?_set_ne (Ne.symm ji)] at ej
        obtain ⟨w',f1,f2⟩:=rep.slots j d ej
        refine ⟨w',f1,SlOk.keep f2 rep.h.ok (Ex.new g) (fun _ _ z _=>z) fun b o' ed qb=>?_⟩
        subst ed;subst qb
        have z:b≠a:=fun z=>ji (rep.sep j i o' o a ej e (z ▸ f1) e1)
        rw [upd_ne z];exact (rep.nown ⟨j,o',ej,f1⟩).2.1
    · have f:∀ (m:Nat) (o3:OO),(sl.set i (some (.d (pubO o))))[m]?=some (some (.own o3))->sl[m]?=some (some (.own o3)):=fun m o3 em=>by
        by_cases mi:m=i
        · subst mi
          rw [List.getElem?_set] at em
          split at em
          · split at em<;>cases em
          · rename_i k;exact absurd rfl k
        · rw [List.getElem?_set_ne (Ne.symm mi)] at em;exact em
      exact rep.sep j k o1 o2 b (f _ _ e1') (f _ _ e2') e3 e4
    · have ne:j≠i:=fun z=>by
        subst z
        rw [List.getElem?_set] at e1'
        split at e1'
        · split at e1'<;>cases e1'
        · rename_i k;exact absurd rfl k
      rw [List.getElem?_set_ne (Ne.symm ne)] at e1'
      exact rep.bor j o1 b e1' e2' (others b z).1
    · by_cases ne:j=i
      · subst ne
        rw [List.getElem?_set] at z
        split at z
        · split at z<;>cases z
        · rename_i k;exact absurd rfl k
      · rw [List.getElem?_set_ne (Ne.symm ne)] at z
        exact rep.nse j o1 z
    · have z:b≠a:=fun z=>w ⟨i,o,e,z ▸ e1⟩
      rw [upd_ne z];exact g1
    · by_cases ne:j=i
      · subst ne
        rw [List.getElem?_set] at z
        split at z
        · split at z<;>cases z
        · rename_i k;exact absurd rfl k
      · rw [List.getElem?_set_ne (Ne.symm ne)] at z
        exact ⟨o1,z⟩
  · exact q.elim
  · exact q.elim
  · rename_i dv no nm ng e
    obtain ⟨v,e1,w⟩:=rep.slots i _ e
    exact ⟨v,e1,hq v H G dv sl (.here rep (SlOk.val w (fun y C fs z=>nm y C fs z) fun y r z=>ng y r z) (fun o z=>no o z) fun a o z z2=>by subst z;subst z2;exact rep.bor i o a e e1) q⟩
  · exact q.elim
theorem adB {i:Nat} {n:Str} {pos:Pos} (h:PE X (.Name n pos) (tVar i)):DE X W (.Name n pos) (dSee i):=abD h fun σ H R ⟨G,so,sl,Q,E,rep,q,hq,_⟩=>by
  unfold dSee at q
  split at q
  · rename_i o e
    obtain ⟨v,e1,w⟩:=rep.slots i _ e
    exact ⟨v,e1,hq v H G _ sl (.here rep w.see (fun _ z=>(nomatch z)) fun _ _ z=>(nomatch z)) q⟩
  · exact q.elim
  · exact q.elim
  · rename_i dv no nm ng e
    obtain ⟨v,e1,w⟩:=rep.slots i _ e
    exact ⟨v,e1,hq v H G dv sl (.here rep (SlOk.val w (fun y C fs z=>nm y C fs z) fun y r z=>ng y r z) (fun o z=>no o z) fun a o z z2=>by subst z;subst z2;exact rep.bor i o a e e1) q⟩
  · exact q.elim
end
def OpSem (K:PySem.W.Frag) (r:R2) (rd:DV->DV->(DV->Prop)->Prop):Prop:=∀ (G:Hp) (so:So) (H:Hp) (x y:V) (dx dy:DV) (Q:DV->Prop) (R:VK),HRep K G so H->VOk K G so H x dx->VOk K G so H y dy->rd dx dy Q->
  (∀ v H' G' dv,PostV K G so H v H' G' dv->Q dv->R v H')->r x y H R
def UnSem (K:PySem.W.Frag) (r:V->Hp->VK->Prop) (rd:DV->(DV->Prop)->Prop):Prop:=∀ (G:Hp) (so:So) (H:Hp) (x:V) (dx:DV) (Q:DV->Prop) (R:VK),HRep K G so H->VOk K G so H x dx->rd dx Q->
  (∀ v H' G' dv,PostV K G so H v H' G' dv->Q dv->R v H')->r x H R
def CallSem (K:PySem.W.Frag) (r:List V->Hp->VK->Prop) (rd:List DV->(DV->Prop)->Prop):Prop:=∀ (G:Hp) (so:So) (H:Hp) (xs:List V) (dxs:List DV) (Q:DV->Prop) (R:VK),HRep K G so H->VsOk K G so H xs dxs->rd dxs Q->
  (∀ v H' G' dv,PostV K G so H v H' G' dv->Q dv->R v H')->r xs H R
def dOp (rd:DV->DV->(DV->Prop)->Prop) (ta tb:TD):TD:=fun sl Q E=>ta sl (fun x s1=>tb s1 (fun y s2=>rd x y fun z=>Q z s2) E) E
def dUn (rd:DV->(DV->Prop)->Prop) (ta:TD):TD:=fun sl Q E=>ta sl (fun x s1=>rd x fun z=>Q z s1) E
def dCB (rd:List DV->(DV->Prop)->Prop) (ta:TDA):TD:=fun sl Q E=>ta sl (fun xs s1=>rd xs fun z=>Q z s1) E
def dNil:TDA:=fun sl Q _=>Q [] sl
def dCons (ta:TD) (tr:TDA):TDA:=fun sl Q E=>ta sl (fun x s1=>tr s1 (fun xs s2=>Q (pubV x::xs) s2) E) E
section
variable {K:PySem.W.Frag} {W:WX} {σ:L2.St} {H:Hp} {R:VK} {ta tb:TD} {X:Cx} {a b e:Expr} {pos:Pos}
theorem agQ {r:R2} {rd:DV->DV->(DV->Prop)->Prop} (hr:OpSem K r rd) (h:up K W (dOp rd ta tb) σ H R):tOp r (up K W ta) (up K W tb) σ H R:=by
  obtain ⟨G,so,sl,Q,E,rep,q,hq,hx⟩:=h
  refine ⟨G,so,sl,_,E,rep,q,fun x H1 G1 dx s1 p1 h1=>?_,hx⟩
  refine ⟨G1,so,s1,_,E,p1.rep,h1,fun y H2 G2 dy s2 p2 h2=>?_,hx.step p1.toPost⟩
  exact hr G2 so H2 x y dx dy _ R p2.rep.h (p1.over p2.toPost) p2.val h2 fun v H' G' dv pv hz=>hq v H' G' dv s2 ((p1.toPost.trans p2.toPost).thenV pv) hz
theorem up_un {r:V->Hp->VK->Prop} {rd:DV->(DV->Prop)->Prop} (hr:UnSem K r rd) (h:up K W (dUn rd ta) σ H R):tUn r (up K W ta) σ H R:=by
  obtain ⟨G,so,sl,Q,E,rep,q,hq,hx⟩:=h
  refine ⟨G,so,sl,_,E,rep,q,fun x H1 G1 dx s1 p1 h1=>?_,hx⟩
  exact hr G1 so H1 x dx _ R p1.rep.h p1.val h1 fun v H' G' dv pv hz=>hq v H' G' dv s1 (p1.toPost.thenV pv) hz
theorem up_cb {r:List V->Hp->VK->Prop} {rd:List DV->(DV->Prop)->Prop} {t:TDA} (hr:CallSem K r rd) (h:up K W (dCB rd t) σ H R):tCB r (upA K W t) σ H R:=by
  obtain ⟨G,so,sl,Q,E,rep,q,hq,hx⟩:=h
  refine ⟨G,so,sl,_,E,rep,q,fun vs H1 G1 ds s1 p1 w h1=>?_,hx⟩
  exact hr G1 so H1 vs ds _ R p1.rep.h w h1 fun v H' G' dv pv hz=>hq v H' G' dv s1 (p1.thenV pv) hz
theorem aab:DA X W [] dNil:=ahp pa_nil fun σ H R ⟨G,so,sl,Q,E,rep,q,hq,_⟩=>hq [] H G [] sl (.refl rep) .nil q
theorem aaa {es:List Expr} {tr:TDA} (ha:DE X W e ta) (hr:DA X W es tr) (hs:starEach (e::es) X.env=(false,eval e X.env)::starEach es X.env:=by rfl):DA X W (e::es) (dCons ta tr):=by
  refine ahp (pa_cons ha hr hs) fun σ H R ⟨G,so,sl,Q,E,rep,q,hq,hx⟩=>?_
  refine ⟨G,so,sl,_,E,rep,q,fun x H1 G1 dx s1 p1 h1=>?_,hx⟩
  obtain ⟨G1',p1'⟩:=p1.pub
  refine ⟨G1',so,s1,_,E,p1'.rep,h1,fun vs H2 G2 ds s2 p2 w h2=>?_,hx.step p1'.toPost⟩
  exact hq (x::vs) H2 G2 (pubV dx::ds) s2 (p1'.toPost.trans p2) (.cons (p1'.over p2) (afG dx) w) h2
theorem ah4 {op:Operator} {r:R2} {rd:DV->DV->(DV->Prop)->Prop} (ho:OpR X (binaryOp op) r) (hr:OpSem X.K r rd) (ha:DE X W a ta) (hb:DE X W b tb):DE X W (.BinOp a op b pos) (dOp rd ta tb):=abD (pe_op ho ha hb) fun _ _ _ h=>agQ hr h
theorem de_un {op:UnaryOp} {r:V->Hp->VK->Prop} {rd:DV->(DV->Prop)->Prop} (ho:UnR X (unaryOp op) r) (hr:UnSem X.K r rd) (ha:DE X W a ta):DE X W (.UnaryOp op a pos) (dUn rd ta):=abD (pe_un ho ha) fun _ _ _ h=>up_un hr h
theorem agL {op:CmpOp} {r:R2} {rd:DV->DV->(DV->Prop)->Prop} (ho:OpR X (compareOp op) r) (hr:OpSem X.K r rd) (ha:DE X W a ta) (hb:DE X W b tb) (hm:behindInMarks op b=false):DE X W (.Compare a [op] [b] pos) (dOp rd ta tb):=abD (pe_cmpR ho ha hb hm) fun _ _ _ h=>agQ hr h
theorem de_ix {r:R2} {rd:DV->DV->(DV->Prop)->Prop} (ho:IxR X r) (hr:OpSem X.K r rd) (ha:DE X W a ta) (hb:DE X W b tb) (hs:PlainIx b):DE X W (.Subscript a b pos) (dOp rd ta tb):=abD (pe_ix ho ha hb hs) fun _ _ _ h=>agQ hr h
end
def keyD:Key->D
  | .inl i=>.int i
  | .inr z=>.str z
def keyPy:Key->PyData
  | .inl i=>.int i
  | .inr z=>.str z
mutual
def D.py:D->Option PyData
  | .non=>some .none
  | .bl b=>some (.bool b)
  | .int i=>some (.int i)
  | .str x=>some (.str x)
  | .lst ds=>(D.pyAll ds).map .list
  | .tup ds=>(D.pyAll ds).map .tuple
  | .ins _ _=>none
  | .dk _=>none
  | .dt _=>none
  | .any=>none
  | .raw _=>none
  | .kt ks=>some (.tuple (ks.map keyPy))
def D.pyAll:List D->Option (List PyData)
  | []=>some []
  | d::r=>match D.py d,D.pyAll r with
    | some p,some ps=>some (p::ps)
    | _,_=>none
end
def DV.dat:DV->Option D
  | .d x=>some x
  | .own o=>some (pubO o)
  | .bor o=>some (pubO o)
  | .see o=>some (pubO o)
  | .src=>none
  | .mu _ _ _=>none
  | .gh _ _=>none
def DV.items:DV->Option (List D)
  | .d (.lst ds)=>some ds
  | .own (.lst ds)=>some ds
  | .bor (.lst ds)=>some ds
  | .see (.lst ds)=>some ds
  | _=>none
section
variable {K:PySem.W.Frag} {G H:Hp} {so:So} {v x y:V} {dv dx dy:DV}
theorem afy {H:Hp}:∀ ks:List Key,DpAll K H (ks.map kV) (ks.map keyPy)
  | []=>.nil
  | .inl i::r=>.cons (.int i) (afy r)
  | .inr z::r=>.cons (.str z) (afy r)
mutual
theorem DOk.dp (e:Ex G H):∀ (d:D) (v:V) (p:PyData),DOk K G v d->d.py=some p->Dp K H v p
  | .non,_,_,h,q=>by cases h;cases q;exact .non
  | .bl b,_,_,h,q=>by cases h;cases q;exact .bl b
  | .int i,_,_,h,q=>by cases h;cases q;exact .int i
  | .str x,_,_,h,q=>by cases h;cases q;exact .str x
  | .lst ds,_,p,h,q=>by
    unfold D.py at q
    cases z:D.pyAll ds with
    | none=>rw [z] at q;cases q
    | some ps=>
      rw [z] at q;cases q
      cases h with
      | lst g a=>exact .lst (SqL.of (e _ _ g)) (DAll.dp e ds _ ps a z)
  | .tup ds,_,p,h,q=>by
    unfold D.py at q
    cases z:D.pyAll ds with
    | none=>rw [z] at q;cases q
    | some ps=>
      rw [z] at q;cases q
      cases h with
      | tup g a=>exact .tup (ex_t e g) (DAll.dp e ds _ ps a z)
  | .ins _ _,_,_,_,q=>by cases q
  | .dk _,_,_,_,q=>by cases q
  | .dt _,_,_,_,q=>by cases q
  | .any,_,_,_,q=>by cases q
  | .raw _,_,_,_,q=>by cases q
  | .kt ks,_,_,h,q=>by
    unfold D.py at q
    cases q
    cases h with
    | kt g=>exact .tup (SqT.of (e _ _ g)) (afy ks)
theorem DAll.dp (e:Ex G H):∀ (ds:List D) (vs:List V) (ps:List PyData),DAll K G vs ds->D.pyAll ds=some ps->DpAll K H vs ps
  | [],_,_,h,q=>by cases h;cases q;exact .nil
  | d::r,_,ps,h,q=>by
    cases h with
    | cons h1 h2=>
      unfold D.pyAll at q
      cases z1:D.py d with
      | none=>rw [z1] at q;cases q
      | some p=>
        cases z2:D.pyAll r with
        | none=>rw [z1,z2] at q;cases q
        | some qs=>
          rw [z1,z2] at q;cases q
          exact .cons (DOk.dp e d _ p h1 z1) (DAll.dp e r _ qs h2 z2)
end
theorem VOk.dp {d:D} {p:PyData} (h:HRep K G so H) (w:VOk K G so H v dv) (e:dv.dat=some d) (q:d.py=some p):Dp K H v p:=by
  cases dv with
  | d z=>cases e;exact DOk.dp h.ex _ _ _ w q
  | src=>cases e
  | mu _ _ _=>cases e
  | gh _ _=>cases e
  | own o=>
    cases e
    obtain ⟨a,rfl,_,_,ok⟩:=w
    cases o with
    | lst ds=>
      obtain ⟨vs,e1,al⟩:=ok
      unfold pubO D.py at q
      cases z:D.pyAll ds with
      | none=>rw [z] at q;cases q
      | some ps=>rw [z] at q;cases q;exact .lst (SqL.of e1) (DAll.dp h.ex ds _ ps al z)
    | ins x C fs=>unfold pubO D.py at q;cases q
    | dk _=>unfold pubO D.py at q;cases q
    | dt _=>unfold pubO D.py at q;cases q
  | bor o=>
    cases e
    obtain ⟨a,rfl,_,ok⟩:=w
    cases o with
    | lst ds=>
      obtain ⟨vs,e1,al⟩:=ok
      unfold pubO D.py at q
      cases z:D.pyAll ds with
      | none=>rw [z] at q;cases q
      | some ps=>rw [z] at q;cases q;exact .lst (SqL.of e1) (DAll.dp h.ex ds _ ps al z)
    | ins x C fs=>unfold pubO D.py at q;cases q
    | dk _=>unfold pubO D.py at q;cases q
    | dt _=>unfold pubO D.py at q;cases q
  | see o=>
    cases e
    obtain ⟨a,rfl,_,ok⟩:=w
    cases o with
    | lst ds=>
      obtain ⟨vs,e1,al⟩:=ok
      unfold pubO D.py at q
      cases z:D.pyAll ds with
      | none=>rw [z] at q;cases q
      | some ps=>rw [z] at q;cases q;exact .lst (SqL.of e1) (DAll.dp h.ex ds _ ps al z)
    | ins x C fs=>unfold pubO D.py at q;cases q
    | dk _=>unfold pubO D.py at q;cases q
    | dt _=>unfold pubO D.py at q;cases q
theorem VOk.list {ds:List D} (h:HRep K G so H) (w:VOk K G so H v dv) (e:dv.items=some ds):∃ a vs,v=.ref a/\H a=some (.lst vs)/\DAll K G vs ds:=by
  unfold DV.items at e
  split at e
  · cases e
    cases w with
    | lst g a=>exact ⟨_,_,rfl,h.ex _ _ g,a⟩
  · cases e
    obtain ⟨a,rfl,_,_,vs,e1,al⟩:=w
    exact ⟨a,vs,rfl,e1,al⟩
  · cases e
    obtain ⟨a,rfl,_,vs,e1,al⟩:=w
    exact ⟨a,vs,rfl,e1,al⟩
  · cases e
    obtain ⟨a,rfl,_,vs,e1,al⟩:=w
    exact ⟨a,vs,rfl,e1,al⟩
  · cases e
theorem VOk.tup {ds:List D} (h:HRep K G so H) (w:VOk K G so H v (.d (.tup ds))):∃ a vs,v=.ref a/\SqT K H a vs/\DAll K G vs ds:=by
  cases w with
  | tup g a=>exact ⟨_,_,rfl,ex_t h.ex g,a⟩
end
abbrev szl:Nat:=16777216
theorem ab7:szl=sizeLine:=by rw [sizeLine_eq]
@[irreducible] def addR:DV->DV->(DV->Prop)->Prop
  | .d (.int i),.d (.int j),Q=>Q (.d (.int (i + j)))
  | .d (.str a),.d (.str b),Q=>a.length + b.length<=szl/\Q (.d (.str (a++b)))
  | .d (.tup a),.d (.tup b),Q=>a.length + b.length<=szl/\Q (.d (.tup (a++b)))
  | x,y,Q=>match x.items,y.items with
    | some a,some b=>a.length + b.length<=szl/\Q (.own (.lst (a++b)))
    | _,_=>False
@[irreducible] def intR (C:Int->Int->Prop) (f:Int->Int->D):DV->DV->(DV->Prop)->Prop
  | .d (.int i),.d (.int j),Q=>C i j/\Q (.d (f i j))
  | _,_,_=>False
@[irreducible] def negR:DV->(DV->Prop)->Prop
  | .d (.int i),Q=>Q (.d (.int (-i)))
  | _,_=>False
section
variable {K:PySem.W.Frag} {X:Cx} {W:WX} {a b:Expr} {ta tb:TD} {pos:Pos}
theorem ag0 {C:Int->Int->Prop} {f:Int->Int->D} {g:Int->Int->V} (hg:∀ G i j,DOk K G (g i j) (f i j)):OpSem K (rI C g) (intR C f):=by
  intro G so H x y dx dy Q R h wx wy q k
  unfold intR at q
  split at q
  · cases wx;cases wy;exact ⟨_,_,rfl,rfl,q.1,k _ H G _ (.dat h (hg G _ _)) q.2⟩
  · exact q.elim
def aif:R2:=fun x y H Q=>∃ i j,x=.str i/\y=.str j/\i.length + j.length<=sizeLine/\Q (.str (i++j)) H
def rAddAll (K:PySem.W.Frag):R2:=fun x y H Q=>(rI0 fun i j=>.int (i + j)) x y H Q\/(aif x y H Q\/(rCatA K x y H Q\/rCat x y H Q))
theorem ags:OpR X (binaryOp .Add) (rAddAll X.K):=OpR.or op_add (OpR.or op_add_str (OpR.or op_catA op_cat))
theorem ahL:OpSem K (rAddAll K) addR:=by
  intro G so H x y dx dy Q R h wx wy q k
  unfold addR at q
  split at q
  · cases wx;cases wy;exact .inl ⟨_,_,rfl,rfl,k _ H G _ (.dat h (.int _)) q⟩
  · cases wx;cases wy;exact .inr (.inl ⟨_,_,rfl,rfl,by rw [<- ab7];exact q.1,k _ H G _ (.dat h (.str _)) q.2⟩)
  · obtain ⟨a,vs,rfl,g1,a1⟩:=VOk.tup h wx
    obtain ⟨b,ws,rfl,g2,a2⟩:=VOk.tup h wy
    refine .inr (.inr (.inl ⟨a,b,vs,ws,rfl,rfl,g1,g2,?_,fun z=>?_,fun _ z=>?_,fun _ _ p n=>?_⟩))
    · rw [a1.length,a2.length,<- ab7];exact q.1
    · subst z;cases a1;exact k _ H G _ (.dat h (by have w:DOk K G _ _:=wy;simpa using w)) q.2
    · subst z;cases a2;exact k _ H G _ (.dat h (by have w:DOk K G _ _:=wx;simpa using w)) q.2
    · exact k _ _ _ _ (.tuple h n (a1.append a2)) q.2
  · split at q
    · rename_i e1 e2
      obtain ⟨a,vs,rfl,g1,a1⟩:=VOk.list h wx e1
      obtain ⟨b,ws,rfl,g2,a2⟩:=VOk.list h wy e2
      refine .inr (.inr (.inr ⟨a,b,vs,ws,rfl,rfl,g1,g2,?_,fun p n=>?_⟩))
      · rw [a1.length,a2.length,<- ab7];exact q.1
      · exact k _ _ _ _ (.list h n (a1.append a2)) q.2
    · exact q.elim
theorem agM (ha:DE X W a ta) (hb:DE X W b tb):DE X W (.BinOp a .Add b pos) (dOp addR ta tb):=ah4 ags ahL ha hb
theorem aix (ha:DE X W a ta) (hb:DE X W b tb):DE X W (.BinOp a .Pow b pos) (dOp (intR CPow fun i j=>.int (i ^ j.toNat)) ta tb):=ah4 op_pow (ag0 fun _ _ _=>.int _) ha hb
theorem ahI:UnSem K (rU fun i=>.int (-i)) negR:=by
  intro G so H x dx Q R h wx q k
  unfold negR at q
  split at q
  · cases wx;exact ⟨_,rfl,k _ H G _ (.dat h (.int _)) q⟩
  · exact q.elim
theorem aiy (ha:DE X W a ta):DE X W (.UnaryOp .USub a pos) (dUn negR ta):=de_un un_neg ahI ha
@[irreducible] def mulR:DV->DV->(DV->Prop)->Prop
  | .d (.int i),.d (.int j),Q=>CMulW i j/\Q (.d (.int (i * j)))
  | x,.d (.int k),Q=>match x.items with
    | some a=>-(2 ^ 63)<=k/\k < 2 ^ 63/\a.length * k.toNat<=szl/\Q (.own (.lst (List.replicate k.toNat a).flatten))
    | _=>False
  | _,_,_=>False
@[irreducible] def eqDeep (neg:Bool):DV->DV->(DV->Prop)->Prop:=fun x y Q=>match x.dat,y.dat with
  | some a,some b=>match a.py,b.py with
    | some p,some q=>SeqAt.shaped p=true/\SeqAt.shaped q=true/\Q (.d (.bl (if neg then !PyData.eqv p q else PyData.eqv p q)))
    | _,_=>False
  | _,_=>False
@[irreducible] def eqR (neg:Bool):DV->DV->(DV->Prop)->Prop
  | .d (.int i),.d (.int j),Q=>Q (.d (.bl (if neg then !decide (i=j) else decide (i=j))))
  | .d (.str i),.d (.str j),Q=>Q (.d (.bl (if neg then !decide (i=j) else decide (i=j))))
  | .d (.bl i),.d (.bl j),Q=>Q (.d (.bl (if neg then !decide (i=j) else decide (i=j))))
  | x,y,Q=>eqDeep neg x y Q
def rEqAll (K:PySem.W.Frag):R2:=fun x y H Q=>rEq x y H Q\/rEqD K x y H Q
def rNeAll (K:PySem.W.Frag):R2:=fun x y H Q=>rNe x y H Q\/rNeD K x y H Q
theorem abH (hu:X.A.units + 64 < cLine):OpR X (compareOp .Eq) (rEqAll X.K):=OpR.or op_eq (op_eqD hu)
theorem ag7 (hu:X.A.units + 64 < cLine):OpR X (compareOp .NotEq) (rNeAll X.K):=OpR.or op_ne (op_neD hu)
theorem decI {i j:Int}:decide (V.int i=V.int j)=decide (i=j):=by
  by_cases h:i=j
  · subst h;simp
  · simp [h]
theorem decS {i j:Str}:decide (V.str i=V.str j)=decide (i=j):=by
  by_cases h:i=j
  · subst h;simp
  · simp [h]
theorem decB {i j:Bool}:decide (V.bl i=V.bl j)=decide (i=j):=by
  by_cases h:i=j
  · subst h;simp
  · simp [h]
theorem adN:OpSem K (rEqAll K) (eqR false):=by
  intro G so H x y dx dy Q R h wx wy q k
  unfold eqR at q
  split at q
  · cases wx;cases wy
    exact .inl ⟨rfl,by rw [decI];exact k _ H G _ (.dat h (.bl _)) q⟩
  · cases wx;cases wy
    exact .inl ⟨rfl,by rw [decS];exact k _ H G _ (.dat h (.bl _)) q⟩
  · cases wx;cases wy
    exact .inl ⟨rfl,by rw [decB];exact k _ H G _ (.dat h (.bl _)) q⟩
  · unfold eqDeep at q
    split at q
    · rename_i d e e1 e2
      split at q
      · rename_i p p' e3 e4
        exact .inr ⟨p,p',wx.dp h e1 e3,wy.dp h e2 e4,q.1,q.2.1,k _ H G _ (.dat h (.bl _)) q.2.2⟩
      · exact q.elim
    · exact q.elim
theorem aid:OpSem K (rNeAll K) (eqR true):=by
  intro G so H x y dx dy Q R h wx wy q k
  unfold eqR at q
  split at q
  · cases wx;cases wy
    exact .inl ⟨rfl,by rw [decI];exact k _ H G _ (.dat h (.bl _)) q⟩
  · cases wx;cases wy
    exact .inl ⟨rfl,by rw [decS];exact k _ H G _ (.dat h (.bl _)) q⟩
  · cases wx;cases wy
    exact .inl ⟨rfl,by rw [decB];exact k _ H G _ (.dat h (.bl _)) q⟩
  · unfold eqDeep at q
    split at q
    · rename_i d e e1 e2
      split at q
      · rename_i p p' e3 e4
        exact .inr ⟨p,p',wx.dp h e1 e3,wy.dp h e2 e4,q.1,q.2.1,k _ H G _ (.dat h (.bl _)) q.2.2⟩
      · exact q.elim
    · exact q.elim
end
@[irreducible] def Br (b:Bool) (A B:Prop):Prop:=(b=true->A)/\(b=false->B)
theorem brt {A B:Prop} (h:Br true A B):A:=by
  unfold Br at h;exact h.1 rfl
theorem brf {A B:Prop} (h:Br false A B):B:=by
  unfold Br at h;exact h.2 rfl
theorem br {b:Bool} {A B:Prop} (h1:b=true->A) (h2:b=false->B):Br b A B:=by
  unfold Br;exact ⟨h1,h2⟩
theorem brT {A B:Prop} (h:A):Br true A B:=br (fun _=>h) fun z=>(nomatch z)
theorem brF {A B:Prop} (h:B):Br false A B:=br (fun z=>(nomatch z)) fun _=>h
structure PostS (K:PySem.W.Frag) (G:Hp) (so:So) (σ:L2.St) (H:Hp) (sl:DSt) (σ':L2.St) (H' G':Hp) (sl':DSt):Prop where
  ex:Ex G G'
  rep:Rep K G' so σ' H' sl'
  keep:∀ a o,H a=some o->so.Nt a->¬ Own sl σ a->H' a=some o
  frm:∀ a,H a≠none->G a=none->so.Nt a->¬ Own sl σ a->G' a=none
  sub:∀ a,H a≠none->so.Nt a->¬ Own sl σ a->¬ Own sl' σ' a
  ln:σ'.length=σ.length
structure PostR (K:PySem.W.Frag) (G:Hp) (so:So) (σ:L2.St) (H:Hp) (sl:DSt) (v:V) (H' G':Hp) (dv:DV) (sl':DSt):Prop where
  ex:Ex G G'
  hrep:HRep K G' so H'
  keep:∀ a o,H a=some o->so.Nt a->¬ Own sl σ a->H' a=some o
  frm:∀ a,H a≠none->G a=none->so.Nt a->¬ Own sl σ a->G' a=none
  val:VOk K G' so H' v dv
  new:∀ a o,dv=.own o->v=.ref a->H a=none\/Own sl σ a
  mus:∀ (i:Nat) (x C:Addr) (fs:List (Str × D)),sl'[i]?=some (some (.mu x C fs))->∃ dx vs,H' x=some (.ins C dx vs)/\FAll K G' vs fs
def XOkS (K:PySem.W.Frag) (W:WX) (G:Hp) (so:So) (σ:L2.St) (H:Hp) (sl:DSt) (E:XP):Prop:=
  ∀ cls d σ' H' G' fs sl',PostS K G so σ H sl σ' H' G' sl'->XdOk K G' H' d fs->E cls fs sl'->W cls d σ' H'
section
variable {K:PySem.W.Frag} {W:WX} {G G1 G2:Hp} {so:So} {σ σ1 σ2:L2.St} {H H1 H2:Hp} {sl s1 s2:DSt} {v x y:V} {dv dx dy:DV} {E:XP}
theorem Rep.mus (r:Rep K G so σ H sl) (i:Nat) (x C:Addr) (fs:List (Str × D)) (e:sl[i]?=some (some (.mu x C fs))):∃ dx vs,H x=some (.ins C dx vs)/\FAll K G vs fs:=by
  obtain ⟨v,_,w⟩:=r.slots i _ e
  exact w.2.2
theorem Post.s (p:Post K G so σ H sl H1 G1 s1):PostS K G so σ H sl σ H1 G1 s1:=⟨p.ex,p.rep,fun a o e s _=>p.keep a o e s,p.frm,fun a _ _ w z=>w (p.sub a z),rfl⟩
theorem PostS.refl (r:Rep K G so σ H sl):PostS K G so σ H sl σ H G sl:=(Post.refl r).s
theorem PostS.trans (a:PostS K G so σ H sl σ1 H1 G1 s1) (b:PostS K G1 so σ1 H1 s1 σ2 H2 G2 s2):PostS K G so σ H sl σ2 H2 G2 s2:=
  ⟨a.ex.trans b.ex,b.rep,fun c o e s w=>b.keep c o (a.keep c o e s w) s (a.sub c (by rw [e];simp) s w),fun c n g s w=>by
    obtain ⟨o,e⟩:=Option.ne_none_iff_exists'.mp n
    exact b.frm c (by rw [a.keep c o e s w];simp) (a.frm c n g s w) s (a.sub c n s w),fun c n s w=>by
    obtain ⟨o,e⟩:=Option.ne_none_iff_exists'.mp n
    exact b.sub c (by rw [a.keep c o e s w];simp) s (a.sub c n s w),b.ln.trans a.ln⟩
theorem PostS.back (a:PostS K G so σ H sl σ1 H1 G1 s1) {c:Addr} (n:H1 c=none\/Own s1 σ1 c):H c=none\/Own sl σ c:=by
  by_cases w:Own sl σ c
  · exact .inr w
  · refine .inl ?_
    cases z:H c with
    | none=>rfl
    | some u=>
      by_cases s:so.Vol c
      · rcases n with n | n
        · exact absurd s (a.rep.h.there n)
        · exact absurd s (a.rep.nown n).2.2
      · rcases n with n | n
        · rw [a.keep c u z s w] at n;cases n
        · exact absurd n (a.sub c (by rw [z];simp) s w)
theorem PostS.thenE (a:PostS K G so σ H sl σ1 H1 G1 s1) (b:PostE K G1 so σ1 H1 s1 v H2 G2 dv s2):PostR K G so σ H sl v H2 G2 dv s2:=by
  have t:=a.trans b.toPost.s
  exact ⟨t.ex,t.rep.h,t.keep,t.frm,b.val,fun c o e q=>a.back (b.new c o e q),b.rep.mus⟩
theorem PostS.thenR (a:PostS K G so σ H sl σ1 H1 G1 s1) (b:PostR K G1 so σ1 H1 s1 v H2 G2 dv s2):PostR K G so σ H sl v H2 G2 dv s2:=
  ⟨a.ex.trans b.ex,b.hrep,fun c o e s w=>b.keep c o (a.keep c o e s w) s (a.sub c (by rw [e];simp) s w),fun c n g s w=>by
    obtain ⟨o,e⟩:=Option.ne_none_iff_exists'.mp n
    exact b.frm c (by rw [a.keep c o e s w];simp) (a.frm c n g s w) s (a.sub c n s w),b.val,fun c o e q=>a.back (b.new c o e q),b.mus⟩
theorem XOkS.ex (h:XOkS K W G so σ H sl E):XOk K W G so σ H sl E:=fun cls d H' G' fs sl' q a b=>h cls d σ H' G' fs sl' q.s a b
theorem XOkS.step (h:XOkS K W G so σ H sl E) (p:PostS K G so σ H sl σ1 H1 G1 s1):XOkS K W G1 so σ1 H1 s1 E:=fun cls d σ' H' G' fs sl' q a b=>h cls d σ' H' G' fs sl' (p.trans q) a b
end
structure EOk (K:PySem.W.Frag) (W:WX) (G:Hp) (so:So) (σ:L2.St) (H:Hp) (sl:DSt) (E:EndsD) (D:Ends):Prop where
  nx:∀ σ' H' G' sl',PostS K G so σ H sl σ' H' G' sl'->E.nx sl'->D.nx σ' H'
  bk:∀ σ' H' G' sl',PostS K G so σ H sl σ' H' G' sl'->E.bk sl'->D.bk σ' H'
  ct:∀ σ' H' G' sl',PostS K G so σ H sl σ' H' G' sl'->E.ct sl'->D.ct σ' H'
  rt:∀ v H' G' dv sl',PostR K G so σ H sl v H' G' dv sl'->E.rt dv sl'->D.rt v H'
  xc:XOkS K W G so σ H sl E.xc
theorem EOk.step {K:PySem.W.Frag} {W:WX} {G G1:Hp} {so:So} {σ σ1:L2.St} {H H1:Hp} {sl s1:DSt} {E:EndsD} {D:Ends} (h:EOk K W G so σ H sl E D) (p:PostS K G so σ H sl σ1 H1 G1 s1):EOk K W G1 so σ1 H1 s1 E D:=
  ⟨fun a b c d q=>h.nx a b c d (p.trans q),fun a b c d q=>h.bk a b c d (p.trans q),fun a b c d q=>h.ct a b c d (p.trans q),fun a b c d z q=>h.rt a b c d z (p.thenR q),h.xc.step p⟩
def upS (K:PySem.W.Frag) (W:WX) (t:TDS):TS:=fun D σ H=>∃ G so sl E,Rep K G so σ H sl/\t E sl/\EOk K W G so σ H sl E D
def DS (X:Cx) (W:WX) (st:Stmt) (t:TDS):Prop:=PS X st (upS X.K W t)
def DSs (X:Cx) (W:WX) (sts:List Stmt) (t:TDS):Prop:=PSs X sts (upS X.K W t)
def dNext:TDS:=fun E sl=>E.nx sl
def dSeq (t u:TDS):TDS:=fun E sl=>t { E with nx:=u E } sl
def dSet (te:TD) (i:Nat):TDS:=fun E sl=>te sl (fun x s1=>match x with
  | .see _=>False
  | y=>E.nx (s1.set i (some y))) E.xc
def dRet (te:TD):TDS:=fun E sl=>te sl (fun x s1=>E.rt x s1) E.xc
def dIf (c:TDT) (t u:TDS):TDS:=fun E sl=>c sl (fun b s1=>Br b (t E s1) (u E s1)) E.xc
section
variable {X:Cx} {W:WX} {st:Stmt} {rest body orelse:List Stmt} {t u:TDS} {e c a b:Expr} {te ta tb:TD} {tc td:TDT} {pos:Pos}
theorem ab9:DSs X W [] dNext:=ago pss_nil fun D σ H ⟨G,so,sl,E,rep,q,ok⟩=>ok.nx σ H G sl (.refl rep) q
theorem aaO (h1:DS X W st t) (h2:DSs X W rest u):DSs X W (st::rest) (dSeq t u):=ago (pss_cons h1 h2) fun D σ H ⟨G,so,sl,E,rep,q,ok⟩=>
  ⟨G,so,sl,_,rep,q,⟨fun σ1 H1 G1 s1 p q1=>⟨G1,so,s1,E,p.rep,q1,ok.step p⟩,ok.bk,ok.ct,ok.rt,ok.xc⟩⟩
theorem abg (h1:DS X W st t):DSs X W [st] t:=pss_one h1
theorem abf (h:DE X W e te):DS X W (.Return (some e) pos) (dRet te):=agq (ps_ret h) fun D σ H ⟨G,so,sl,E,rep,q,ok⟩=>
  ⟨G,so,sl,_,E.xc,rep,q,fun v H1 G1 dv s1 p q1=>ok.rt v H1 G1 dv s1 ((PostS.refl rep).thenE p) q1,ok.xc.ex⟩
theorem ad1 (hc:DT X W c tc) (h1:DSs X W body t) (h2:DSs X W orelse u):DS X W (.If c body orelse pos) (dIf tc t u):=agq (ps_if hc h1 h2) fun D σ H ⟨G,so,sl,E,rep,q,ok⟩=>by
  refine ⟨G,so,sl,_,E.xc,rep,q,fun k H1 G1 s1 p q1=>?_,ok.xc.ex⟩
  cases k with
  | true=>rw [if_pos rfl];exact ⟨G1,so,s1,E,p.rep,(brt q1),ok.step p.s⟩
  | false=>rw [if_neg Bool.false_ne_true];exact ⟨G1,so,s1,E,p.rep,(brf q1),ok.step p.s⟩
end
section
variable {K:PySem.W.Frag} {W:WX} {G G1 G2:Hp} {so:So} {σ σ1 σ2:L2.St} {H H1 H2:Hp} {sl s1 s2:DSt} {v x y:V} {dv dx dy:DV} {E:XP}
theorem get_set {α:Type} {l:List α} {i j:Nat} {x y:α} (h:(l.set i x)[j]?=some y):(j=i/\y=x)\/(j≠i/\l[j]?=some y):=by
  by_cases ji:j=i
  · subst ji
    rw [List.getElem?_set] at h
    split at h
    · split at h
      · cases h;exact .inl ⟨rfl,rfl⟩
      · cases h
    · rename_i k;exact absurd rfl k
  · rw [List.getElem?_set_ne (Ne.symm ji)] at h
    exact .inr ⟨ji,h⟩
theorem agW {i:Nat} (hi:i < σ.length) (ns:∀ o,dv≠.see o) (rep:Rep K G so σ H sl) (w:VOk K G so H v dv) (n:∀ a o,dv=.own o\/dv=.bor o->v=.ref a->¬ Own sl σ a) (nb:∀ (a:Addr) (o:OO) (i':Nat) (o':OO),dv=.own o->v=.ref a->sl[i']?=some (some (.bor o'))->σ[i']?=some (some (.ref a))->False) (new:∀ a o,dv=.own o->v=.ref a->H1 a=none\/Own s1 σ1 a)
    (sub:∀ a,H1 a≠none->so.Nt a->¬ Own s1 σ1 a->¬ Own sl σ a) :
    Rep K G so (σ.set i (some v)) H (sl.set i (some dv))/\∀ a,H1 a≠none->so.Nt a->¬ Own s1 σ1 a->¬ Own (sl.set i (some dv)) (σ.set i (some v)) a:=by
  have hl:i < sl.length:=by rw [rep.len];exact hi
  have self:(σ.set i (some v))[i]?=some (some v):=List.getElem?_set_self hi
  have other:∀ {j:Nat},j≠i->(σ.set i (some v))[j]?=σ[j]?:=fun ne=>List.getElem?_set_ne (Ne.symm ne)
  refine ⟨⟨rep.h,by rw [List.length_set,List.length_set];exact rep.len,fun j d q=>?_,fun j k o o' a q1 q2 q3 q4=>?_,fun j o a q1 q2 z=>?_,fun j o z=>?_⟩,fun a n1 sa w1 z=>?_⟩
  · rcases get_set q with ⟨rfl,e⟩ | ⟨ne,e⟩
    · cases e;exact ⟨v,self,VOk.slot w⟩
    · obtain ⟨w',e1,e2⟩:=rep.slots j d e
      exact ⟨w',by rw [other ne];exact e1,e2⟩
  · rcases get_set q1 with ⟨rfl,e1⟩ | ⟨ne1,e1⟩
    · cases e1
      rw [self] at q3;cases q3
      rcases get_set q2 with ⟨rfl,e2⟩ | ⟨ne2,e2⟩
      · rfl
      · rw [other ne2] at q4
        exact absurd ⟨k,o',e2,q4⟩ (n a o (.inl rfl) rfl)
    · rw [other ne1] at q3
      rcases get_set q2 with ⟨rfl,e2⟩ | ⟨ne2,e2⟩
      · cases e2
        rw [self] at q4;cases q4
        exact absurd ⟨j,o,e1,q3⟩ (n a o' (.inl rfl) rfl)
      · rw [other ne2] at q4
        exact rep.sep j k o o' a e1 e2 q3 q4
  · obtain ⟨m,o',e1,e2⟩:=z
    rcases get_set q1 with ⟨rfl,f1⟩ | ⟨ne1,f1⟩
    · cases f1
      rw [self] at q2;cases q2
      rcases get_set e1 with ⟨rfl,f2⟩ | ⟨ne2,f2⟩
      · cases f2
      · rw [other ne2] at e2
        exact n a o (.inr rfl) rfl ⟨m,o',f2,e2⟩
    · rw [other ne1] at q2
      rcases get_set e1 with ⟨rfl,f2⟩ | ⟨ne2,f2⟩
      · cases f2
        rw [self] at e2;cases e2
        exact nb a o' j o rfl rfl f1 q2
      · rw [other ne2] at e2
        exact rep.bor j o a f1 q2 ⟨m,o',f2,e2⟩
  · rcases get_set z with ⟨rfl,e⟩ | ⟨ne,e⟩
    · cases e;exact ns o rfl
    · exact rep.nse j o e
  · obtain ⟨j,o,e1,e2⟩:=z
    rcases get_set e1 with ⟨rfl,e⟩ | ⟨ne,e⟩
    · cases e
      rw [self] at e2;cases e2
      rcases new a o rfl rfl with k | k
      · exact n1 k
      · exact w1 k
    · rw [other ne] at e2
      exact sub a n1 sa w1 ⟨j,o,e,e2⟩
theorem PostE.set {i:Nat} (hi:i < σ.length) (ns:∀ o,dv≠.see o) (p:PostE K G so σ H sl v H1 G1 dv s1):PostS K G so σ H sl (σ.set i (some v)) H1 G1 (s1.set i (some dv)):=by
  have bf:∀ (a:Addr) (o:OO) (i':Nat) (o':OO),dv=.own o->v=.ref a->s1[i']?=some (some (.bor o'))->σ[i']?=some (some (.ref a))->False:=fun a o i' o' e q e1 e2=>p.nbs a o i' o' e q e1 e2
  obtain ⟨r,s⟩:=agW (H1:=H) (s1:=sl) (σ1:=σ) hi ns p.rep p.val (fun a o e q=>p.sepv a o e q) bf (fun a o e q=>p.new a o e q) fun a _ _ w z=>w (p.sub a z)
  exact ⟨p.ex,r,fun a o e sa _=>p.keep a o e sa,p.frm,s,List.length_set⟩
end
section
variable {X:Cx} {W:WX} {e:Expr} {te:TD} {pos pos':Pos} {i:Nat} {x:Str}
theorem ahj {K:PySem.W.Frag} {D:Ends} {σ:L2.St} {H:Hp} (hi:∀ {G so sl},Rep K G so σ H sl->i < σ.length) (h:upS K W (dSet te i) D σ H):tAsg (up K W te) (gName i) D σ H:=by
  obtain ⟨G,so,sl,E,rep,q,ok⟩:=h
  refine ⟨G,so,sl,_,E.xc,rep,q,fun v H1 G1 dv s1 p q1=>?_,ok.xc.ex⟩
  split at q1
  · exact q1.elim
  · rename_i ns
    exact ok.nx _ H1 G1 _ (p.set (hi rep) fun o z=>ns o z) q1
theorem agp {st:Stmt} {t t':TS} (h:PS X st t) (f:∀ D σ H,σ.length=X.N.length->t' D σ H->t D σ H):PS X st t':=⟨fun pins s σ H Q I q=>h.run pins s σ H Q I (f _ _ _ I.len q)⟩
theorem agI (hN:X.N.Nodup) (hi:X.N[i]?=some x) (hx:Loc X.env.scope x) (he:DE X W e te) (hs:swapsWith e (some (.Name x pos')) pos.line X.env=pure false:=by rfl) (hf:X.fn x=true\/X.env.scope.names.lookup x=some .local:=by first | exact .inl rfl | exact .inr rfl | assumption) :
    DS X W (.Assign [.Name x pos'] e pos) (dSet te i):=agp (ps_set hN hi hx he hs hf) fun D σ H hl h=>ahj (fun _=>by rw [hl];exact (List.getElem?_eq_some_iff.mp hi).1) h
end
@[irreducible] def truR:DV->(Bool->Prop)->Prop
  | .d (.bl b),Q=>Q b
  | .d .non,Q=>Q false
  | .d (.int i),Q=>Q (i != 0)
  | .d (.str x),Q=>x.length<=szl/\Q ((x.length:Int) != 0)
  | .d (.tup ds),Q=>Q (!ds.isEmpty)
  | v,Q=>match v.items with
    | some ds=>Q (!ds.isEmpty)
    | none=>False
def dTru (te:TD):TDT:=fun sl Q E=>te sl (fun x s1=>truR x fun b=>Q b s1) E
def dTest (te:TD):TDT:=fun sl Q E=>te sl (fun x s1=>match x with
  | .d (.bl b)=>Q b s1
  | _=>False) E
def dNot (t:TDT):TDT:=fun sl Q E=>t sl (fun b s1=>Q (!b) s1) E
def dIfE (t:TDT) (ta tb:TD):TD:=fun sl Q E=>t sl (fun b s1=>Br b (ta s1 Q E) (tb s1 Q E)) E
theorem aeq {K:PySem.W.Frag} {G:Hp} {vs:List V} {ds:List D} (a:DAll K G vs ds):vs.isEmpty=ds.isEmpty:=by
  cases a<;>rfl
theorem aia {K:PySem.W.Frag} {G:Hp} {so:So} {H:Hp} {v:V} {dv:DV} {Q:Bool->Prop} (h:HRep K G so H) (w:VOk K G so H v dv) (q:truR dv Q):∃ k,TruV K v H k/\Q k:=by
  unfold truR at q
  split at q
  · cases w;exact ⟨_,rfl,q⟩
  · cases w;exact ⟨_,rfl,q⟩
  · cases w;exact ⟨_,rfl,q⟩
  · cases w;exact ⟨_,⟨by rw [<- ab7];exact q.1,rfl⟩,q.2⟩
  · obtain ⟨a,vs,rfl,g1,a1⟩:=VOk.tup h w
    exact ⟨_,.inr (.inl ⟨vs,g1,rfl⟩),by rw [aeq a1];exact q⟩
  · split at q
    · rename_i e
      obtain ⟨a,vs,rfl,g1,a1⟩:=VOk.list h w e
      exact ⟨_,.inl ⟨vs,SqL.of g1,rfl⟩,by rw [aeq a1];exact q⟩
    · exact q.elim
section
variable {X:Cx} {W:WX} {e c a b:Expr} {rest:List Expr} {te ta tb tc:TD} {t u:TDT} {pos:Pos} {K:PySem.W.Frag} {σ:L2.St} {H:Hp}
theorem ahv (h:DE X W e te) (he:∀ whole,isTrue e X.env whole=(do let v <- whole;standAt e.pos;holding [v] (truthy v)):=by intro _;rfl):DT X W e (dTru te):=
  agn (pt_truth h he) fun σ H R ⟨G,so,sl,Q,E,rep,q,hq,hx⟩=>⟨G,so,sl,_,E,rep,q,fun v H1 G1 dv s1 p q1=>by
    obtain ⟨k,tv,qk⟩:=aia p.rep.h p.val q1
    exact ⟨k,tv,hq k H1 G1 s1 p.toPost qk⟩,hx⟩
theorem ahG {te:TD} {R:Bool->Hp->Prop} (h:upT K W (dTest te) σ H R):tTest (up K W te) σ H R:=by
  obtain ⟨G,so,sl,Q,E,rep,q,hq,hx⟩:=h
  refine ⟨G,so,sl,_,E,rep,q,fun v H1 G1 dv s1 p q1=>?_,hx⟩
  split at q1
  · have w:=p.val
    cases w
    exact ⟨_,rfl,hq _ H1 G1 s1 p.toPost q1⟩
  · exact q1.elim
theorem agP {tE:TE} {te:TD} {R:Bool->Hp->Prop} (f:∀ R,up K W te σ H R->tE σ H R) (h:upT K W (dTest te) σ H R):tTest tE σ H R:=f _ (ahG h)
theorem ab8 {op:CmpOp} {r:R2} {rd:DV->DV->(DV->Prop)->Prop} (ho:OpR X (compareOp op) r) (hr:OpSem X.K r rd) (ha:DE X W a ta) (hb:DE X W b tb) (hm:behindInMarks op b=false):DT X W (.Compare a [op] [b] pos) (dTest (dOp rd ta tb)):=
  agn (pt_cmpR ho ha hb hm) fun _ _ _ h=>agP (fun _ h=>agQ hr h) h
theorem ahw (h:DT X W a t):DT X W (.UnaryOp .Not a pos) (dNot t):=agn (pt_not h) fun σ H R ⟨G,so,sl,Q,E,rep,q,hq,hx⟩=>⟨G,so,sl,_,E,rep,q,fun k H1 G1 s1 p q1=>hq (!k) H1 G1 s1 p q1,hx⟩
theorem ahA (hc:DT X W c t) (ha:DE X W a ta) (hb:DE X W b tb):DE X W (.IfExp c a b pos) (dIfE t ta tb):=abD (pe_ifExp hc ha hb) fun σ H R ⟨G,so,sl,Q,E,rep,q,hq,hx⟩=>
  ⟨G,so,sl,_,E,rep,q,fun k H1 G1 s1 p q1=>by
    cases k with
    | true=>rw [if_pos rfl];exact ⟨G1,so,s1,Q,E,p.rep,(brt q1),fun v H2 G2 dv s2 p2 q2=>hq v H2 G2 dv s2 (p.thenE p2) q2,hx.step p⟩
    | false=>rw [if_neg Bool.false_ne_true];exact ⟨G1,so,s1,Q,E,p.rep,(brf q1),fun v H2 G2 dv s2 p2 q2=>hq v H2 G2 dv s2 (p.thenE p2) q2,hx.step p⟩,hx⟩
def dats:List DV->Option (List D)
  | []=>some []
  | .d x::r=>(dats r).map (x::·)
  | _=>none
theorem ad4 {G:Hp} {so:So}:∀ {vs:List V} {ds:List DV} {xs:List D},VsOk K G so H vs ds->dats ds=some xs->DAll K G vs xs
  | _,_,_,.nil,e=>by cases e;exact .nil
  | _,_,_,.cons (d:=.d x) h n t,e=>by
    unfold dats at e
    rename_i ds0
    cases z:dats ds0 with
    | none=>rw [z] at e;cases e
    | some ys=>rw [z] at e;cases e;exact .cons h (ad4 t z)
  | _,_,_,.cons (d:=.src) h n t,e=>by cases e
  | _,_,_,.cons (d:=.own o) h n t,e=>by cases e
  | _,_,_,.cons (d:=.bor o) h n t,e=>by cases e
  | _,_,_,.cons (d:=.see o) h n t,e=>by cases e
@[irreducible] def tupR (xs:List DV) (Q:DV->Prop):Prop:=match dats xs with
  | some ds=>ds.length<=szl/\Q (.d (.tup ds))
  | none=>False
@[irreducible] def lstR (xs:List DV) (Q:DV->Prop):Prop:=match dats xs with
  | some ds=>ds.length<=szl/\Q (.own (.lst ds))
  | none=>False
theorem aaU {es:List Expr} {ta:TDA} {k:Nat} (h:DA X W es ta):DE X W (.Tuple es k pos) (dCB tupR ta):=abD (pe_tup h) fun σ H R ⟨G,so,sl,Q,E,rep,q,hq,hx⟩=>
  ⟨G,so,sl,_,E,rep,q,fun vs H1 G1 ds s1 p w q1=>by
    unfold tupR at q1
    split at q1
    · rename_i xs e
      have a:=ad4 w e
      exact ⟨by rw [a.length,<- ab7];exact q1.1,fun l n=>hq _ _ _ _ s1 (p.thenV (.tuple p.rep.h n a)) q1.2⟩
    · exact q1.elim,hx⟩
theorem abG {es:List Expr} {ta:TDA} (h:DA X W es ta):DE X W (.List es pos) (dCB lstR ta):=abD (pe_lst h) fun σ H R ⟨G,so,sl,Q,E,rep,q,hq,hx⟩=>
  ⟨G,so,sl,_,E,rep,q,fun vs H1 G1 ds s1 p w q1=>by
    unfold lstR at q1
    split at q1
    · rename_i xs e
      have a:=ad4 w e
      exact ⟨by rw [a.length,<- ab7];exact q1.1,fun l n=>hq _ _ _ _ s1 (p.thenV (.list p.rep.h n a)) q1.2⟩
    · exact q1.elim,hx⟩
end
abbrev TDG:=D->DSt->(DSt->Prop)->Prop
abbrev TDGs:=List D->DSt->(DSt->Prop)->Prop
def GSem (K:PySem.W.Frag) (n:Nat) (ix:List Nat) (g:TG) (gd:TDG):Prop:=∀ (G:Hp) (so:So) (σ:L2.St) (H:Hp) (sl:DSt) (v:V) (d:D) (Q:DSt->Prop) (R:L2.St->Hp->Prop),σ.length=n->Rep K G so σ H sl->DOk K G v d->gd d sl Q->
  (∀ σ' sl',PostS K G so σ H sl σ' H G sl'->(∀ j,j∉ix->σ'[j]?=σ[j]?/\sl'[j]?=sl[j]?)->Q sl'->R σ' H)->g v σ H R
structure DG (X:Cx) (ix:List Nat) (tg:Expr) (g:TG) (gd:TDG):Prop where
  pg:PG X tg g
  sem:GSem X.K X.N.length ix g gd
def gD (i:Nat):TDG:=fun d sl Q=>Q (sl.set i (some (.d d)))
def gNilD:TDGs:=fun ds sl Q=>match ds with
  | []=>Q sl
  | _=>False
def gConsD (g:TDG) (r:TDGs):TDGs:=fun ds sl Q=>match ds with
  | d::ds'=>g d sl fun s1=>r ds' s1 Q
  | []=>False
section
variable {X:Cx} {pos:Pos} {i:Nat} {x:Str} {ix iy:List Nat} {e:Expr} {es:List Expr} {gd:TDG} {gs:TDGs} {g1:TG} {g2:TGs}
theorem agE {K:PySem.W.Frag} {n:Nat} (hi:i < n):GSem K n [i] (gName i) (gD i):=by
  intro G so σ H sl v d Q R hl rep w q k
  have h0:i < σ.length:=by rw [hl];exact hi
  refine k _ _ ((PostE.here rep (dv:=.d d) w (fun _ z=>(nomatch z)) fun _ _ z=>(nomatch z)).set h0 fun _ z=>by cases z) (fun j hj=>?_) q
  exact ⟨List.getElem?_set_ne fun z=>hj (by simp [z]),List.getElem?_set_ne fun z=>hj (by simp [z])⟩
theorem adj (hN:X.N.Nodup) (hi:X.N[i]?=some x) (hx:Loc X.env.scope x) (hf:X.fn x=true\/X.env.scope.names.lookup x=some .local:=by first | exact .inl rfl | exact .inr rfl | assumption):DG X [i] (.Name x pos) (gName i) (gD i):=
  ⟨pg_name hN hi hx hf,agE (List.getElem?_eq_some_iff.mp hi).1⟩
end
abbrev TDI:=DSt->(List D->DSt->Prop)->XP->Prop
def ItD (K:PySem.W.Frag) (G:Hp) (so:So) (σ:L2.St) (H:Hp) (sl:DSt) (J:It) (ds:List D):Prop:=∃ ps:List Addr,(∀ a∈ps,H a≠none/\so.Nt a/\¬ Own sl σ a)/\
  (∀ (i:Nat) H1,i < ds.length->(∀ a∈ps,H1 a=H a)->J.go i H1)/\(∀ H1,(∀ a∈ps,H1 a=H a)->J.stop ds.length H1)/\
  (∀ (i:Nat) H1 x H2 G1,(∀ a∈ps,H1 a=H a)->Ex G G1->HRep K G1 so H1->J.yld i H1 x H2->i < ds.length->∃ d G2,ds[i]?=some d/\PostV K G1 so H1 x H2 G2 (.d d))
def upI (K:PySem.W.Frag) (W:WX) (t:TDI):TI:=fun σ H R=>∃ G so sl Q E,Rep K G so σ H sl/\t sl Q E/\(∀ J H' G' ds sl',Post K G so σ H sl H' G' sl'->ItD K G' so σ H' sl' J ds->Q ds sl'->R J H')/\XOk K W G so σ H sl E
def DI (X:Cx) (W:WX) (tg iter:Expr) (t:TDI):Prop:=PI X tg iter (upI X.K W t)
theorem aho {X:Cx} {tg e:Expr} {t t':TI} (h:PI X tg e t) (f:∀ σ H R,t' σ H R->t σ H R):PI X tg e t':=⟨fun pins s σ H Q I q=>h.run pins s σ H Q I (f _ _ _ q)⟩
def signs (z:Str):List D:=z.cps.toList.map fun c=>.str ⟨#[c]⟩
@[irreducible] def iterR:DV->(List D->Prop)->Prop
  | .d (.tup ds),Q=>Q ds
  | .d (.str z),Q=>Q (signs z)
  | .see _,_=>False
  | v,Q=>match v.items with
    | some ds=>Q ds
    | none=>False
def dIter (te:TD):TDI:=fun sl Q E=>te sl (fun x s1=>iterR (pubV x) fun ds=>Q ds s1) E
def intsFrom (lo:Int):Nat->List D
  | 0=>[]
  | n + 1=>.int lo::intsFrom (lo + 1) n
theorem adP (lo:Int) (n:Nat):(intsFrom lo n).length=n:=by
  induction n generalizing lo with
  | zero=>rfl
  | succ n ih=>show (intsFrom (lo + 1) n).length + 1=n + 1;rw [ih]
theorem afp (lo:Int) (n i:Nat) (h:i < n):(intsFrom lo n)[i]?=some (.int (lo + i)):=by
  induction n generalizing lo i with
  | zero=>omega
  | succ n ih=>
    cases i with
    | zero=>show some (D.int lo)=_;rw [show lo + ((0:Nat):Int)=lo by omega]
    | succ i=>show (intsFrom (lo + 1) n)[i]?=_;rw [ih (lo + 1) i (by omega)];congr 2;omega
def dItA (rd:List DV->(List D->Prop)->Prop) (ta:TDA):TDI:=fun sl Q E=>ta sl (fun xs s1=>rd xs fun ds=>Q ds s1) E
@[irreducible] def ag3:List DV->(List D->Prop)->Prop
  | [.d (.int j)],Q=>-(2 ^ 62)<=j/\j < 2 ^ 62/\Q (intsFrom 0 j.toNat)
  | _,_=>False
section
variable {X:Cx} {W:WX} {tg e e2 a b:Expr} {te:TD} {ta:TDA} {pos p:Pos}
def iAny (K:PySem.W.Frag) (tl:TE):TI:=fun σ H R=>tl σ H fun x H1=>(∃ a,x=.ref a/\(∃ xs,SqL K H1 a xs)/\R (Itl K a) H1)\/(∃ a,x=.ref a/\(∃ xs,SqT K H1 a xs)/\R (Itt K a) H1)\/∃ z,x=.str z/\R (Its z) H1
theorem aig {tl:TE} (hl:PE X e tl):PI X tg e (iAny X.K tl):=by
  refine ⟨fun pins s σ H R I h=>thn (hl.run pins s σ H _ I h) fun v s1 ⟨x,H1,I1,r1,q1⟩=>?_⟩
  rcases q1 with ⟨a,ex,⟨xs,hq⟩,q⟩ | ⟨a,ex,⟨xs,hq⟩,q⟩ | ⟨z,ex,q⟩
  · subst ex;cases r1
    obtain ⟨its,rv,pl,_⟩:=I1.list hq
    exact wpAny_pyIter_list pl.isList (pi_one (tk:=s1.toks) I1 _ (turn_list a _) ⟨_,Heap.get?_push_size _ rfl,rfl,rfl⟩ q)
  · subst ex;cases r1
    obtain ⟨its,rv,pt,_⟩:=I1.tuple hq
    exact wpAny_pyIter_tuple (show s1.heap.IsTuple a its.toArray from pt) (pi_one (tk:=s1.toks) I1 _ (turn_tuple a _) ⟨_,Heap.get?_push_size _ rfl,rfl,rfl⟩ q)
  · subst ex
    obtain ⟨t,rfl⟩:=r1
    cases ha:z.cps.all (· < 128)
    · exact wpAny_pyIter_wide ha (pi_one (tk:=s1.toks) I1 _ (turn_str _ z t "str_iterator" (.inr rfl)) ⟨_,Heap.get?_push_size _ rfl,rfl,rfl⟩ q)
    · exact wpAny_pyIter_ascii ha (pi_one (tk:=s1.toks) I1 _ (turn_str _ z t "str_ascii_iterator" (.inl rfl)) ⟨_,Heap.get?_push_size _ rfl,rfl,rfl⟩ q)
section
variable {K:PySem.W.Frag} {G H:Hp} {so:So} {σ:L2.St} {sl:DSt} {v w:V} {dv dw:DV}
theorem VOk.listS {ds:List D} (rep:Rep K G so σ H sl) (w:VOk K G so H v dv) (n:∀ o a,dv=.own o\/dv=.bor o->v=.ref a->¬ Own sl σ a) (m:∀ o,dv≠.see o) (e:dv.items=some ds) :
    ∃ a vs,v=.ref a/\H a=some (.lst vs)/\DAll K G vs ds/\H a≠none/\so.Nt a/\¬ Own sl σ a:=by
  unfold DV.items at e
  split at e
  · cases e
    cases w with
    | lst g al=>exact ⟨_,_,rfl,rep.h.ex _ _ g,al,by rw [rep.h.ex _ _ g];simp,rep.h.nsrc g,fun z=>by have:=(rep.nown z).2.1;rw [g] at this;cases this⟩
  · cases e
    obtain ⟨c,rfl,g,s,vs,e1,al⟩:=w
    exact ⟨c,vs,rfl,e1,al,by rw [e1];simp,s,n _ c (.inl rfl) rfl⟩
  · cases e
    obtain ⟨c,rfl,s,vs,e1,al⟩:=w
    exact ⟨c,vs,rfl,e1,al,by rw [e1];simp,s,n _ c (.inr rfl) rfl⟩
  · exact absurd rfl (m _)
  · cases e
theorem ahY {c:Addr} {vs:List V} {ds:List D} (e:H c=some (.lst vs)) (al:DAll K G vs ds) (s:so.Nt c) (n:¬ Own sl σ c):ItD K G so σ H sl (Itl K c) ds:=by
  refine ⟨[c],fun a ha=>?_,fun i H1 hi k=>?_,fun H1 k=>?_,fun i H1 x H2 G1 k g h1 y hi=>?_⟩
  · obtain rfl:a=c:=by simpa using ha
    exact ⟨by rw [e];simp,s,n⟩
  · have q:H1 c=some (.lst vs):=by rw [k c (by simp)];exact e
    have hl:i < vs.length:=by rw [al.length];exact hi
    exact ⟨vs,vs[i],SqL.of q,by simp [hl]⟩
  · have q:H1 c=some (.lst vs):=by rw [k c (by simp)];exact e
    exact ⟨vs,SqL.of q,by rw [al.length];exact Nat.le_refl _⟩
  · have q:H1 c=some (.lst vs):=by rw [k c (by simp)];exact e
    obtain ⟨rfl,y⟩:=y
    obtain ⟨d,e1,e2⟩:=al.getV (y vs (SqL.of q))
    exact ⟨d,G1,e1,.dat h1 (e2.mono g)⟩
theorem aiq {c:Addr} {vs:List V} {ds:List D} (rep:Rep K G so σ H sl) (e:SqT K G c vs) (al:DAll K G vs ds):ItD K G so σ H sl (Itt K c) ds:=by
  have kp:∀ (H1:Hp),(∀ a∈(if G c=none then [] else [c]),H1 a=H a)->SqT K H1 c vs:=fun H1 k=>by
    rcases e with (e | ⟨o,e⟩) | e
    · refine .inl (.inl ?_)
      rw [k c (by rw [if_neg (by rw [e];simp)];simp)];exact rep.h.ex _ _ e
    · refine .inl (.inr ⟨o,?_⟩)
      rw [k c (by rw [if_neg (by rw [e];simp)];simp)];exact rep.h.ex _ _ e
    · exact .inr e
  refine ⟨if G c=none then [] else [c],fun a ha=>?_,fun i H1 hi k=>?_,fun H1 k=>?_,fun i H1 x H2 G1 k g h1 y hi=>?_⟩
  · split at ha
    · simp at ha
    · rename_i z
      obtain rfl:a=c:=by simpa using ha
      obtain ⟨o,eo⟩:=Option.ne_none_iff_exists'.mp z
      exact ⟨by rw [rep.h.ex _ _ eo];simp,rep.h.nsrc eo,fun q=>z (rep.nown q).2.1⟩
  · have hl:i < vs.length:=by rw [al.length];exact hi
    exact ⟨vs,vs[i],kp H1 k,by simp [hl]⟩
  · exact ⟨vs,kp H1 k,by rw [al.length];exact Nat.le_refl _⟩
  · obtain ⟨rfl,y⟩:=y
    obtain ⟨d,e1,e2⟩:=al.getV (y vs (kp _ k))
    exact ⟨d,G1,e1,.dat h1 (e2.mono g)⟩
theorem air {z:Str}:ItD K G so σ H sl (Its z) (signs z):=by
  have hl:(signs z).length=z.cps.size:=by unfold signs;simp
  refine ⟨[],fun a ha=>by simp at ha,fun i H1 hi k=>by rw [hl] at hi;exact hi,fun H1 k=>Nat.le_of_eq hl.symm,fun i H1 x H2 G1 k g h1 y hi=>?_⟩
  obtain ⟨rfl,c,e,rfl⟩:=y
  refine ⟨.str ⟨#[c]⟩,G1,?_,.dat h1 (.str _)⟩
  unfold signs
  rw [List.getElem?_map,Array.getElem?_toList,e];rfl
theorem ais {lo:Int} {n:Nat}:ItD K G so σ H sl (Itr lo n) (intsFrom lo n):=by
  have hl:=adP lo n
  refine ⟨[],fun a ha=>by simp at ha,fun i H1 hi k=>by rw [hl] at hi;exact hi,fun H1 k=>Nat.le_of_eq hl.symm,fun i H1 x H2 G1 k g h1 y hi=>?_⟩
  obtain ⟨rfl,rfl⟩:=y
  rw [hl] at hi
  exact ⟨_,G1,afp lo n i hi,.dat h1 (.int _)⟩
end
end
section
variable {X:Cx} {W:WX} {tg e e2 a b:Expr} {te:TD} {ta:TDA} {pos p:Pos}
theorem afr (h:DE X W e te):DI X W tg e (dIter te):=aho (aig h) fun σ H R ⟨G,so,sl,Q,E,rep,q,hq,hx⟩=>by
  refine ⟨G,so,sl,_,E,rep,q,fun x H1 G0 dx s1 p0 q1=>?_,hx⟩
  obtain ⟨G1,p⟩:=p0.pub
  have w:=p.val
  have sv:=p.sepv
  have rp:=p.rep
  have pp:=p.toPost
  generalize hz:pubV dx=dz at w q1 sv
  unfold iterR at q1
  split at q1
  · cases w with
    | tup g al=>exact .inr (.inl ⟨_,rfl,⟨_,ex_t rp.h.ex g⟩,hq _ H1 G1 _ s1 pp (aiq rp g al) q1⟩)
  · cases w;exact .inr (.inr ⟨_,rfl,hq _ H1 G1 _ s1 pp air q1⟩)
  · exact q1.elim
  · split at q1
    · rename_i ns _o ds e1
      obtain ⟨c,vs,rfl,e2,al,_,s,n⟩:=VOk.listS rp w (fun o c e' q'=>sv c o e' q') (fun o z=>ns o z) e1
      exact .inl ⟨c,rfl,⟨_,SqL.of e2⟩,hq _ H1 G1 _ s1 pp (ahY e2 al s n) q1⟩
    · exact q1.elim
theorem VsOk.v1 {K:PySem.W.Frag} {G H:Hp} {so:So} {vs:List V} {d:DV} (h:VsOk K G so H vs [d]):∃ v,vs=[v]/\VOk K G so H v d/\∀ o,d≠.own o:=by
  cases h with
  | cons w n t=>cases t;exact ⟨_,rfl,w,n⟩
theorem VsOk.v2 {K:PySem.W.Frag} {G H:Hp} {so:So} {vs:List V} {d e:DV} (h:VsOk K G so H vs [d,e]):∃ v w,vs=[v,w]/\VOk K G so H v d/\VOk K G so H w e/\(∀ o,d≠.own o)/\∀ o,e≠.own o:=by
  cases h with
  | cons w n t=>
    obtain ⟨v,rfl,w2,n2⟩:=t.v1
    exact ⟨_,v,rfl,w,w2,n,n2⟩
theorem agJ (hg:Gl X "range") (hm:X.mg "range"=none) (h:DA X W [a] ta) (hs:starEach [a] X.env=[(false,eval a X.env)]:=by rfl):DI X W tg (.Call (.Name "range" p) [a] [] pos) (dItA ag3 ta):=aho (pi_range1 hg hm h hs) fun σ H R ⟨G,so,sl,Q,E,rep,q,hq,hx⟩=>by
  refine ⟨G,so,sl,_,E,rep,q,fun vs H1 G1 ds s1 pp w q1=>?_,hx⟩
  unfold ag3 at q1
  split at q1
  · obtain ⟨v,rfl,w1,_⟩:=w.v1
    cases w1
    exact ⟨_,rfl,q1.1,q1.2.1,hq _ H1 G1 _ s1 pp ais q1.2.2⟩
  · exact q1.elim
end
section
variable {X:Cx} {W:WX} {e e2:Expr} {ta:TDA} {pos p:Pos}
end
section
variable {X:Cx} {W:WX} {tg iter:Expr} {body:List Stmt} {ti:TDI} {g:TDG} {tb:TDS} {pos:Pos} {ix:List Nat} {g':TG}
end
section
variable {X:Cx} {W:WX} {c:Expr} {body:List Stmt} {tc:TDT} {tb:TDS} {pos:Pos}
end
def wipeD (sl:DSt):List Nat->DSt
  | []=>sl
  | v::vs=>(wipeD sl vs).set v none
def ah5 (g:TDG) (tt:TDT) (te:TD) (vs:List Nat) (Q:DV->DSt->Prop):List D->List D->DSt->Prop
  | [],acc,sl=>Q (.own (.lst acc)) sl
  | d::r,acc,sl=>g d sl fun s1=>tt s1 (fun b s2=>Br b (te s2 (fun x s3=>match pubV x with
    | .d y=>acc.length < szl/\ah5 g tt te vs Q r (acc++[y]) (wipeD s3 vs)
    | _=>False) fun _ _ _=>False) (ah5 g tt te vs Q r acc (wipeD s2 vs))) fun _ _ _=>False
@[irreducible] def dLcL (g:TDG) (tt:TDT) (te:TD) (vs:List Nat) (Q:DV->DSt->Prop) (ds acc:List D) (sl:DSt):Prop:=ah5 g tt te vs Q ds acc sl
theorem afw {g:TDG} {tt:TDT} {te:TD} {vs:List Nat} {Q:DV->DSt->Prop} {acc:List D} {sl:DSt}:dLcL g tt te vs Q [] acc sl=Q (.own (.lst acc)) sl:=by unfold dLcL;rfl
theorem afd {g:TDG} {tt:TDT} {te:TD} {vs:List Nat} {Q:DV->DSt->Prop} {d:D} {r acc:List D} {sl:DSt}:dLcL g tt te vs Q (d::r) acc sl=g d sl fun s1=>tt s1 (fun b s2=>Br b (te s2 (fun x s3=>match pubV x with
    | .d y=>acc.length < szl/\dLcL g tt te vs Q r (acc++[y]) (wipeD s3 vs)
    | _=>False) fun _ _ _=>False) (dLcL g tt te vs Q r acc (wipeD s2 vs))) fun _ _ _=>False:=by unfold dLcL;rfl
def dLc (ti:TDI) (g:TDG) (tt:TDT) (te:TD) (vs:List Nat):TD:=fun sl Q E=>ti sl (fun ds s1=>dLcL g tt te vs Q ds [] (wipeD s1 vs)) E
def dYes:TDT:=fun sl Q _=>Q true sl
def DTs (X:Cx) (W:WX) (ifs:List Expr) (t:TDT):Prop:=PTs X ifs (upT X.K W t)
abbrev W0:WX:=fun _ _ _ _=>False
section
variable {X:Cx} {W:WX}
theorem adi:DTs X W [] dYes:=⟨fun pins s σ H Q I ⟨G,so,sl,Q',E,rep,q,hq,hx⟩=>pts_nil.run pins s σ H Q I (hq true H G sl (.refl rep) q)⟩
section
variable {K:PySem.W.Frag} {G:Hp} {so:So} {σ:L2.St} {H:Hp} {sl:DSt} {vs:List Nat}
theorem aaq {i:Nat} {x:DV}:∀ {vs:List Nat},(wipeD sl vs)[i]?=some (some x)->sl[i]?=some (some x)/\i∉vs
  | [],h=>⟨h,by simp⟩
  | v::vs,h=>by
    unfold wipeD at h
    rcases get_set h with ⟨rfl,e⟩ | ⟨ne,e⟩
    · cases e
    · obtain ⟨q1,q2⟩:=aaq e
      exact ⟨q1,fun z=>(List.mem_cons.mp z).elim ne q2⟩
theorem afj:∀ (vs:List Nat),(wipeD sl vs).length=sl.length
  | []=>rfl
  | v::vs=>by unfold wipeD;rw [List.length_set,afj vs]
theorem abd {c:Addr} (h:Own (wipeD sl vs) (wipe σ vs) c):Own sl σ c:=by
  obtain ⟨i,o,e1,e2⟩:=h
  exact ⟨i,o,(aaq e1).1,(wipe_some e2).1⟩
theorem Rep.wipe (r:Rep K G so σ H sl) (vs:List Nat):Rep K G so (L2.wipe σ vs) H (wipeD sl vs):=
  ⟨r.h,by rw [afj,wipe_length];exact r.len,fun i d e=>by
    obtain ⟨e1,n⟩:=aaq e
    obtain ⟨v,f1,f2⟩:=r.slots i d e1
    exact ⟨v,by rw [wipe_out n];exact f1,f2⟩,
    fun i j o o' a e1 e2 e3 e4=>r.sep i j o o' a (aaq e1).1 (aaq e2).1 (wipe_some e3).1 (wipe_some e4).1,
    fun i o a e1 e2 z=>r.bor i o a (aaq e1).1 (wipe_some e2).1 (abd z),fun i o e=>r.nse i o (aaq e).1⟩
theorem af5 {σ1 σ2:L2.St} (hl:σ1.length=σ2.length) (h:∀ j,j∉vs->σ1[j]?=σ2[j]?):wipe σ1 vs=wipe σ2 vs:=by
  have z:∀ (σ:L2.St) (j:Nat) (vs:List Nat),j∈vs->j < σ.length->(wipe σ vs)[j]?=some none:=by
    intro σ j vs
    induction vs with
    | nil=>intro h;simp at h
    | cons v r ih=>
      intro hm hj
      unfold wipe
      by_cases e:v=j
      · subst e;rw [List.getElem?_set_self (by rw [wipe_length];exact hj)]
      · rw [List.getElem?_set_ne e]
        rcases List.mem_cons.mp hm with q | q
        · exact absurd q.symm e
        · exact ih q hj
  refine List.ext_getElem? fun j=>?_
  by_cases m:j∈vs
  · by_cases hj:j < σ1.length
    · rw [z σ1 j vs m hj,z σ2 j vs m (by rw [<- hl];exact hj)]
    · rw [List.getElem?_eq_none (by rw [wipe_length];omega),List.getElem?_eq_none (by rw [wipe_length];omega)]
  · rw [wipe_out m,wipe_out m];exact h j m
theorem afW (vs:List Nat):L2.wipe (L2.wipe σ vs) vs=L2.wipe σ vs:=af5 (wipe_length σ vs) fun j m=>wipe_out m
theorem Post.unwipe {H1 G1:Hp} {s1:DSt} (r:Rep K G so σ H sl) (p:Post K G so (L2.wipe σ vs) H (wipeD sl vs) H1 G1 s1):Post K G so σ H sl H1 G1 s1:=by
  have lk:∀ (i:Nat) (dv:DV),s1[i]?=some (some dv)->(L2.wipe σ vs)[i]?=σ[i]?:=fun i dv e=>by
    obtain ⟨v,f1,_⟩:=p.rep.slots i dv e
    rw [f1,(wipe_some f1).1]
  have ow:∀ c,Own s1 σ c->Own s1 (L2.wipe σ vs) c:=fun c ⟨i,o,e1,e2⟩=>⟨i,o,e1,by rw [lk i _ e1];exact e2⟩
  refine ⟨p.ex,⟨p.rep.h,by rw [p.rep.len,wipe_length],fun i dv e=>?_,fun i j o o' a e1 e2 e3 e4=>?_,fun i o a e1 e2 z=>?_,p.rep.nse⟩,p.keep,fun a n g s w=>p.frm a n g s fun z=>w (abd z),fun a z=>abd (p.sub a (ow a z)),fun i o e=>let ⟨o1,e1⟩:=p.bsub i o e;⟨o1,(aaq e1).1⟩⟩
  · obtain ⟨v,f1,f2⟩:=p.rep.slots i dv e
    exact ⟨v,(wipe_some f1).1,f2⟩
  · exact p.rep.sep i j o o' a e1 e2 (by rw [lk i _ e1];exact e3) (by rw [lk j _ e2];exact e4)
  · exact p.rep.bor i o a e1 (by rw [lk i _ e1];exact e2) (ow a z)
end
variable {elt tg iter:Expr} {ifs:List Expr} {scope:Scope} {own:List (Str × Nat)} {pos spos:Pos} {ti:TDI} {g:TDG} {tt:TDT} {te:TD} {ix:List Nat}
theorem ah9 {K:PySem.W.Frag} {n:Nat} {g':TG} {σ:L2.St} {H:Hp} {R:VK} (vs:List Nat) (hl:σ.length=n) (sg:GSem K n ix g' g) (hix:∀ j,j∈ix->j∈vs) (h:up K W (dLc ti g tt te vs) σ H R):tLc (upI K W ti) g' (upT K W0 tt) (up K W0 te) vs σ H R:=by
  obtain ⟨G,so,sl,Q,E,rep,q,hq,hx⟩:=h
  refine ⟨G,so,sl,_,E,rep,q,fun J H1 G1 ds s1 p0 it q1=>?_,hx⟩
  obtain ⟨ps,prot,goes,stops,yields⟩:=it
  intro C hC
  have nsC:so.Nt C:=p0.rep.h.there hC
  have rw1:=p0.rep.wipe vs
  have psC:∀ a∈ps,a≠C:=fun a ha z=>(prot a ha).1 (z ▸ hC)
  refine ⟨fun i m H'=>m=ds.length - i/\i<=ds.length/\∃ G' sl' us acc,Post K G1 so (L2.wipe σ vs) H1 (wipeD s1 vs) H' G' sl'/\H' C=some (.lst us)/\G' C=none/\DAll K G' us acc/\dLcL g tt te vs Q (ds.drop i) acc sl',
    ⟨ds.length,by simp,Nat.zero_le _,G1,_,[],[],?_,upd_same,p0.rep.h.ex.free hC,.nil,q1⟩,?_⟩
  · have pv:=PostV.list (K:=K) (G:=G1) (so:=so) (ds:=[]) rw1.h hC .nil
    exact (pv.slots rw1).toPost
  rintro i m H' ⟨rfl,hi,G',sl',us,acc,t,hCl,gC,al,q2⟩
  have same:∀ a∈ps,H' a=H1 a:=fun a ha=>by
    obtain ⟨n1,s,w⟩:=prot a ha
    exact abF t.keep n1 s
  have noC:∀ {sl'':DSt} {σ'':L2.St},(∀ a,Own sl'' σ'' a->Own (wipeD s1 vs) (L2.wipe σ vs) a)->¬ Own sl'' σ'' C:=fun f z=>(p0.rep.nown (abd (f C z))).1 hC
  have borC:∀ (j:Nat) (o:OO),(wipeD s1 vs)[j]?=some (some (.bor o))->(L2.wipe σ vs)[j]?=some (some (.ref C))->False:=fun j o e1 e2=>by
    obtain ⟨v,f1,f2⟩:=rw1.slots j _ e1
    rw [e2] at f1;cases f1
    obtain ⟨b,z,_,k⟩:=f2
    cases z
    exact k.there hC
  by_cases hlt:i < ds.length
  · refine .inr ⟨goes i H' hlt same,fun H''=>∃ G'' sl'' us' acc',Post K G1 so (L2.wipe σ vs) H1 (wipeD s1 vs) H'' G'' sl''/\H'' C=some (.lst us')/\G'' C=none/\DAll K G'' us' acc'/\dLcL g tt te vs Q (ds.drop (i + 1)) acc' sl'',
      fun H'' ⟨G'',sl'',us',acc',h1,h2,h3,h4,h5⟩=>⟨ds.length - (i + 1),by omega,rfl,hlt,G'',sl'',us',acc',h1,h2,h3,h4,h5⟩,fun x H2 y=>?_⟩
    obtain ⟨d,G2,ed,pv⟩:=yields i H' x H2 G' same t.ex t.rep.h y hlt
    have pe:=pv.slots t.rep
    have C2:H2 C=some (.lst us):=pe.keep C _ hCl nsC
    have g2:G2 C=none:=pe.frm C (by rw [hCl];simp) gC nsC (noC t.sub)
    rw [List.drop_eq_getElem_cons hlt] at q2
    have ed':ds[i]=d:=by rw [List.getElem?_eq_getElem hlt] at ed;exact Option.some.inj ed
    rw [ed',afd] at q2
    refine sg G2 so _ H2 sl' x d _ _ ((wipe_length σ vs).trans hl) pe.rep pe.val q2 fun σ3 sl3 t3 u3 q3=>?_
    have e3:L2.wipe σ3 vs=L2.wipe σ vs:=by
      rw [<- afW (σ:=σ) vs]
      exact af5 t3.ln fun j hj=>(u3 j fun z=>hj (hix j z)).1
    have sub3:∀ a,Own (wipeD sl3 vs) (L2.wipe σ3 vs) a->Own (wipeD s1 vs) (L2.wipe σ vs) a:=fun a z=>by
      rw [e3] at z
      by_cases w:Own sl' (L2.wipe σ vs) a
      · exact t.sub a w
      · obtain ⟨j,o,z1,z2⟩:=z
        have z2':σ3[j]?=some (some (.ref a)):=by
          rw [<- e3] at z2;exact (wipe_some z2).1
        have ow3:Own sl3 σ3 a:=⟨j,o,(aaq z1).1,z2'⟩
        obtain ⟨n1,g1,s1'⟩:=t3.rep.nown ow3
        exact absurd ow3 (t3.sub a n1 s1' w)
    have sub3':∀ a,Own sl3 σ3 a->Own sl' (L2.wipe σ vs) a:=fun a z=>by
      by_cases w:Own sl' (L2.wipe σ vs) a
      · exact w
      · obtain ⟨n1,g1,s1'⟩:=t3.rep.nown z
        exact absurd z (t3.sub a n1 s1' w)
    have bs3:∀ (j:Nat) (o:OO),sl3[j]?=some (some (.bor o))->j∉vs->∃ o',(wipeD s1 vs)[j]?=some (some (.bor o')):=fun j o e n=>by
      rw [(u3 j fun z=>n (hix j z)).2] at e
      exact t.bsub j o e
    refine ⟨e3,G2,so,sl3,_,fun _ _ _=>False,t3.rep,q3,fun b H4 G4 s4 p4 q4=>?_,fun _ _ _ _ _ _ _ _ z=>z⟩
    have C4:H4 C=some (.lst us):=p4.keep C _ C2 nsC
    have n3C:¬ Own sl3 σ3 C:=fun z=>noC t.sub (sub3' C z)
    have g4:G4 C=none:=p4.frm C (by rw [C2];simp) g2 nsC n3C
    have k4:∀ a o,H1 a=some o->so.Nt a->H4 a=some o:=fun a o e s=>p4.keep a o (pe.keep a o (t.keep a o e s) s) s
    have f4:∀ a,H1 a≠none->G1 a=none->so.Nt a->¬ Own (wipeD s1 vs) (L2.wipe σ vs) a->G4 a=none:=fun a n1 g1 s w=>by
      have n2:¬ Own sl' (L2.wipe σ vs) a:=fun z=>w (t.sub a z)
      have h':H' a≠none:=by rw [abF t.keep n1 s];exact n1
      have h2:H2 a≠none:=by rw [abF pe.keep h' s];exact h'
      exact p4.frm a h2 (pe.frm a h' (t.frm a n1 g1 s w) s n2) s fun z=>n2 (sub3' a z)
    have bs4:∀ (j:Nat) (o:OO),s4[j]?=some (some (.bor o))->j∉vs->∃ o',(wipeD s1 vs)[j]?=some (some (.bor o')):=fun j o e n=>by
      obtain ⟨o1,e1⟩:=p4.bsub j o e
      exact bs3 j o1 e1 n
    cases b with
    | false=>
      refine iteF ⟨G4,wipeD s4 vs,us,acc,⟨t.ex.trans (pe.ex.trans p4.ex),?_,k4,f4,fun a z=>?_,fun j o e=>bs4 j o (aaq e).1 (aaq e).2⟩,C4,g4,al.mono (pe.ex.trans p4.ex),(brf q4)⟩
      · have r:=p4.rep.wipe vs;rw [e3] at r;exact r
      · refine t.sub a (sub3' a (p4.sub a (abd (vs:=vs) ?_)))
        rw [e3];exact z
    | true=>
      refine iteT ⟨G4,so,s4,_,fun _ _ _=>False,p4.rep,(brt q4),fun y H5 G5 dy s5 p5' q5=>?_,fun _ _ _ _ _ _ _ _ z=>z⟩
      obtain ⟨G6,p5⟩:=p5'.pub
      have wv:=p5.val
      split at q5
      · rename_i yd ey
        rw [ey] at wv
        have n4C:¬ Own s4 σ3 C:=fun z=>n3C (p4.sub C z)
        have C5:H5 C=some (.lst us):=p5.keep C _ C4 nsC
        have g5:G6 C=none:=p5.frm C (by rw [C4];simp) g4 nsC n4C
        have k5:∀ a o,H1 a=some o->so.Nt a->H5 a=some o:=fun a o e s=>p5.keep a o (k4 a o e s) s
        have f5:∀ a,H1 a≠none->G1 a=none->so.Nt a->¬ Own (wipeD s1 vs) (L2.wipe σ vs) a->G6 a=none:=fun a n1 g1 s w=>by
          have n2:¬ Own sl' (L2.wipe σ vs) a:=fun z=>w (t.sub a z)
          have h4:H4 a≠none:=by rw [abF k4 n1 s];exact n1
          exact p5.frm a h4 (f4 a n1 g1 s w) s fun z=>n2 (sub3' a (p4.sub a z))
        have bs5:∀ (j:Nat) (o:OO),s5[j]?=some (some (.bor o))->j∉vs->∃ o',(wipeD s1 vs)[j]?=some (some (.bor o')):=fun j o e n=>by
          obtain ⟨o1,e1⟩:=p5.bsub j o e
          exact bs4 j o1 e1 n
        have al5:DAll K G6 us acc:=al.mono (pe.ex.trans (p4.ex.trans p5.ex))
        have lu:us.length=acc.length:=al5.length
        refine ⟨us,C5,by rw [lu,<- ab7];exact q5.1,G6,wipeD s5 vs,us++[y],acc++[yd],⟨t.ex.trans (pe.ex.trans (p4.ex.trans p5.ex)),?_,fun a o e s=>?_,f5,fun a z=>?_,fun j o e=>bs5 j o (aaq e).1 (aaq e).2⟩,upd_same,g5,al5.append (.cons wv .nil),q5.2⟩
        · have r:=p5.rep.wipe vs
          rw [e3] at r
          refine ⟨⟨fun a o e=>?_,fun a k e=>?_,r.h.ok,afE r.h.tp (by intro _ z;cases z)⟩,r.len,fun j dv e=>?_,r.sep,r.bor,r.nse⟩
          · rw [upd_ne (ne_of_none e g5)];exact r.h.ex a o e
          · exact (r.h.vol a k e).keep (Ex.refl _) (r.h.vol a k e).g (upd_ne fun z=>nsC (z ▸ ⟨k,e⟩))
          · obtain ⟨v,f1,f2⟩:=r.slots j dv e
            refine ⟨v,f1,?_⟩
            have key:∀ a:Addr,a≠C->(upd H5 C (.lst (us++[y]))) a=H5 a:=fun a z=>upd_ne z
            cases dv with
            | d z=>exact f2
            | src=>exact f2
            | own o=>
              obtain ⟨a,r1,r2,r3,r4⟩:=f2
              subst r1
              have z:a≠C:=fun z=>by
                subst z
                exact noC (fun a z=>t.sub a (sub3' a (p4.sub a (p5.sub a (abd (vs:=vs) (by rw [e3];exact z)))))) ⟨j,o,e,f1⟩
              exact ⟨a,rfl,r2,r3,r4.keep (Ex.refl _) (key a z)⟩
            | bor o=>
              obtain ⟨a,r1,r3,r4⟩:=f2
              subst r1
              have z:a≠C:=fun z=>by
                subst z
                obtain ⟨o1,z1⟩:=bs5 j o (aaq e).1 (aaq e).2
                exact borC j o1 z1 f1
              exact ⟨a,rfl,r3,r4.keep (Ex.refl _) (key a z)⟩
            | see o=>exact absurd e (r.nse j o)
            | mu y D gs=>exact SlOk.muU f2 (Ex.refl _) nsC
            | gh _ _=>exact SlOk.ghU f2 (Ex.refl _) nsC
        · rw [upd_ne (fun z=>by subst z;rw [hC] at e;cases e)];exact k5 a o e s
        · exact t.sub a (sub3' a (p4.sub a (p5.sub a (abd (vs:=vs) (by rw [e3];exact z)))))
      · exact q5.elim
  · have e:i=ds.length:=by omega
    subst e
    rw [List.drop_length,afw] at q2
    refine .inl ⟨stops H' same,hq _ H' G' _ sl' ?_ q2⟩
    have pu:=t.unwipe p0.rep
    refine (p0.thenE { pu with val:=⟨C,rfl,gC,nsC,us,hCl,al⟩,new:=fun a o _ z=>?_,sepv:=fun a o _ z w=>?_,nbs:=fun a o j o' _ z e1 e2=>?_ })
    · cases z;exact .inl hC
    · cases z;exact (p0.rep.nown (pu.sub _ w)).1 hC
    · cases z
      obtain ⟨o1,z1⟩:=t.bsub j o' e1
      have lkj:(L2.wipe σ vs)[j]?=some (some (.ref C)):=by rw [wipe_out (aaq z1).2];exact e2
      exact borC j o1 z1 lkj
theorem agK {g':TG} (hc:X.calm=true) (hN:X.N.Nodup) (hi:DI X W tg iter ti) (ok:BlkOk X.N X.env.scope scope own)
    (hg:∀ s H C cl fp,DG (X.blk s H scope (compEnvC scope cl C X.env) fp) ix tg g' g) (ht:∀ s H C cl fp,DTs (X.blk s H scope (compEnvC scope cl C X.env) fp) W0 ifs tt)
    (he:∀ s H C cl fp,DE (X.blk s H scope (compEnvC scope cl C X.env) fp) W0 elt te) (hix:∀ j,j∈ix->j∈own.map (·.2):=by decide) (hs:∀ x,foldedSetIterable iter X.env x=pure x:=by intro _;rfl) :
    DE X W (.ListComp elt [⟨tg,iter,ifs,0⟩] scope pos) (dLc ti g tt te (own.map (·.2))):=by
  have b:=pe_lc (tt:=upT X.K W0 tt) (te:=up X.K W0 te) (ifs:=ifs) (elt:=elt) (pos:=pos) hc hN hi ok (fun s H C cl fp=>(hg s H C cl fp).pg) ht he hs
  exact ⟨fun pins s σ H Q I q=>b.run pins s σ H Q I (ah9 _ I.len (hg s H 0 [] []).sem hix q)⟩
theorem afN {g':TG} {i:Nat} {y:Str} {py:Pos} (hc:X.calm=true) (hN:X.N.Nodup) (hy:X.N[i]?=some y) (hyl:X.env.scope.names.lookup y=some .local) (hsw:swapsWith (.ListComp elt [⟨tg,iter,ifs,0⟩] scope pos) (some (.Name y py)) spos.line X.env=pure true)
    (hi:DI X W tg iter ti) (ok:BlkOk X.N X.env.scope scope own)
    (hg:∀ s H C cl fp,DG (X.blk s H scope (compEnvC scope cl C X.env) fp) ix tg g' g) (ht:∀ s H C cl fp,DTs (X.blk s H scope (compEnvC scope cl C X.env) fp) W0 ifs tt)
    (he:∀ s H C cl fp,DE (X.blk s H scope (compEnvC scope cl C X.env) fp) W0 elt te) (hix:∀ j,j∈ix->j∈own.map (·.2):=by decide) (hs:∀ x,foldedSetIterable iter X.env x=pure x:=by intro _;rfl) :
    DS X W (.Assign [.Name y py] (.ListComp elt [⟨tg,iter,ifs,0⟩] scope pos) spos) (dSet (dLc ti g tt te (own.map (·.2))) i):=by
  have b:=ps_setLc (tt:=upT X.K W0 tt) (te:=up X.K W0 te) (pos:=pos) (spos:=spos) (py:=py) hc hN hy hyl hsw hi ok (fun s H C cl fp=>(hg s H C cl fp).pg) ht he hs
  refine ⟨fun pins s σ H D I q=>b.run pins s σ H D I ?_⟩
  have q2:=ahj (K:=X.K) (W:=W) (te:=dLc ti g tt te (own.map (·.2))) (i:=i) (D:=D) (σ:=σ) (H:=H) (fun _=>by rw [I.len];exact (List.getElem?_eq_some_iff.mp hy).1) q
  exact ah9 _ I.len (hg s H 0 [] []).sem hix q2
end
theorem af6 {X:Cx}:L2N.Takes X (fun _ _ _ _=>False):=fun _ _ ⟨_,_,_,_,_,_,_,_,_,_,_,_,_,_,_,_,z⟩=>z.elim
theorem tkOf {X:Cx} {E:XK} (hs:X.stack=X.env::X.outer) (hf:X.env.frame=some X.env.locals) (hex:X.ex=[]) {E₁:Value->Shared->Prop}
    (hx:X.xe=fun e s'=>wpAny (model X.prog X.w) X.A (leaving X.env e) (fun _ s''=>L2N.CX X.prog X.w X.outer X.H_0 X.s_0 E e s'') E₁ s'):L2N.Takes X (fun cls d _ H=>E cls d H):=L2N.takes_of hs hf hex hx
abbrev XE':=Value->List (Str × D)->Prop
abbrev SpD:=List DV->(DV->Prop)->XE'->Prop
structure PostH (K:PySem.W.Frag) (G:Hp) (so:So) (H:Hp) (H' G':Hp):Prop where
  ex:Ex G G'
  hrep:HRep K G' so H'
  keep:∀ a o,H a=some o->so.Nq a->H' a=some o
  frm:∀ a,H a≠none->G a=none->so.Nt a->G' a=none
def upSp (K:PySem.W.Frag) (sp:SpD):Sp:=fun vs H Q E=>∃ G so args QD ED,HRep K G so H/\VsOk K G so H vs args/\sp args QD ED/\(∀ v H' G' dv,PostV K G so H v H' G' dv->QD dv->Q v H')/\
  (∀ cls d H' G' fs,PostH K G so H H' G'->XdOk K G' H' d fs->ED cls fs->E cls d H')
def So.drop (so:So):So:=so.filter fun p=>match p.2 with
  | .mt _=>false
  | _=>true
theorem So.drop_sub {so:So} {p:Addr × Kd} (h:p∈so.drop):p∈so:=(List.mem_filter.mp h).1
theorem So.drop_nt {so:So} {a:Addr} (h:so.Nt a):so.drop.Nt a:=fun ⟨k,e⟩=>h ⟨k,So.drop_sub e⟩
theorem So.drop_nq {so:So} {a:Addr} (h:so.Nq a):so.drop.Nt a:=fun ⟨k,e⟩=>by
  obtain ⟨C,rfl⟩:=h k (So.drop_sub e)
  exact absurd (List.mem_filter.mp e).2 (by simp)
theorem So.drop_mt {K:PySem.W.Frag} {so:So} {a C:Addr} (ok:SoOk K so) (h:(a,Kd.mt C)∈so):so.Nq a:=fun k e=>⟨C,ok.uq a k (.mt C) e h⟩
theorem So.drop_in {so:So} {a:Addr} {k:Kd} (h:(a,k)∈so) (n:∀ C,k≠.mt C):(a,k)∈so.drop:=List.mem_filter.mpr ⟨h,by cases k<;>first | rfl | exact absurd rfl (n _)⟩
section
variable {K:PySem.W.Frag} {G G' H H':Hp} {so:So}
theorem SoOk.drop (h:SoOk K so):SoOk K so.drop:=⟨fun q hq=>So.drop_in (h.tb q hq) (fun _ e=>by cases e),fun a k k' e e'=>h.uq a k k' (So.drop_sub e) (So.drop_sub e')⟩
theorem HRep.drop (h:HRep K G so H):HRep K G so.drop H:=⟨h.ex,fun a k e=>h.vol a k (So.drop_sub e),h.ok.drop,h.tp⟩
theorem VOk.drop {v:V} {dv:DV} (h:VOk K G so H v dv):VOk K G so.drop H v dv:=by
  cases dv with
  | d x=>exact h
  | src=>obtain ⟨a,⟨c,e⟩,q⟩:=h;exact ⟨a,⟨c,So.drop_in e (fun _ z=>by cases z)⟩,q⟩
  | own o=>obtain ⟨a,q,g,s,k⟩:=h;exact ⟨a,q,g,So.drop_nt s,k⟩
  | bor o=>obtain ⟨a,q,s,k⟩:=h;exact ⟨a,q,So.drop_nt s,k⟩
  | see o=>obtain ⟨a,q,s,k⟩:=h;exact ⟨a,q,So.drop_nt s,k⟩
  | mu _ _ _=>exact h
  | gh _ _=>exact h
theorem VsOk.drop:∀ {vs:List V} {ds:List DV},VsOk K G so H vs ds->VsOk K G so.drop H vs ds
  | _,_,.nil=>.nil
  | _,_,.cons h n t=>.cons h.drop n (VsOk.drop t)
structure PostU (K:PySem.W.Frag) (G:Hp) (so:So) (H:Hp) (v:V) (H' G':Hp) (dv:DV):Prop where
  ex:Ex G G'
  hrep:HRep K G' so H'
  keep:∀ a o,H a=some o->so.Nt a->H' a=some o
  frm:∀ a,H a≠none->G a=none->so.Nt a->G' a=none
  val:VOk K G' so H' v dv
  new:∀ a o,dv=.own o->v=.ref a->H a=none
  nob:∀ o,dv≠.bor o
structure PostHU (K:PySem.W.Frag) (G:Hp) (so:So) (H:Hp) (H' G':Hp):Prop where
  ex:Ex G G'
  hrep:HRep K G' so H'
  keep:∀ a o,H a=some o->so.Nt a->H' a=some o
  frm:∀ a,H a≠none->G a=none->so.Nt a->G' a=none
theorem HRep.back (h:HRep K G so H) (ex:Ex G G') (p:HRep K G' so.drop H') (kp:∀ a C o,(a,Kd.mt C)∈so->so.drop.Nt a->H a=some o->H' a=some o) (f:∀ a C,(a,Kd.mt C)∈so->so.drop.Nt a->H a≠none->G a=none->G' a=none):HRep K G' so H':=by
  refine ⟨p.ex,fun a k e=>?_,h.ok,p.tp⟩
  by_cases c:∃ C,k=.mt C
  · obtain ⟨C,rfl⟩:=c
    have v:=h.vol a _ e
    have nt:=So.drop_nq (So.drop_mt h.ok e)
    obtain ⟨o,ho⟩:=Option.ne_none_iff_exists'.mp v.there
    exact v.keep ex (f a C e nt v.there v.g) (by rw [kp a C o e nt ho,ho])
  · exact p.vol a k (So.drop_in e fun C z=>c ⟨C,z⟩)
theorem PostHU.back (h:HRep K G so H) (p:PostHU K G so.drop H H' G'):PostH K G so H H' G':=by
  refine ⟨p.ex,⟨p.hrep.ex,fun a k e=>?_,h.ok,p.hrep.tp⟩,fun a o e s=>p.keep a o e (So.drop_nq s),fun a n g s=>p.frm a n g (So.drop_nt s)⟩
  by_cases c:∃ C,k=.mt C
  · obtain ⟨C,rfl⟩:=c
    have v:=h.vol a _ e
    have nt:=So.drop_nq (So.drop_mt h.ok e)
    exact v.keep p.ex (p.frm a v.there v.g nt) (abF p.keep v.there nt)
  · exact p.hrep.vol a k (So.drop_in e fun C z=>c ⟨C,z⟩)
theorem PostU.h {v:V} {dv:DV} (p:PostU K G so H v H' G' dv):PostHU K G so H H' G':=⟨p.ex,p.hrep,p.keep,p.frm⟩
theorem PostU.back {v:V} {dv:DV} (h:HRep K G so H) (p:PostU K G so.drop H v H' G' dv) (ns:∀ o,dv≠.see o):PostV K G so H v H' G' dv:=by
  have b:=p.h.back h
  refine ⟨b.ex,b.hrep,b.keep,b.frm,?_,p.new,p.nob⟩
  have w:=p.val
  cases dv with
  | d x=>exact w
  | src=>obtain ⟨a,⟨c,e⟩,q⟩:=w;exact ⟨a,⟨c,So.drop_sub e⟩,q⟩
  | own o=>obtain ⟨a,q,g,s,k⟩:=w;exact ⟨a,q,g,h.there (p.new a o rfl q),k⟩
  | bor o=>exact absurd rfl (p.nob o)
  | see o=>exact absurd rfl (ns o)
  | mu _ _ _=>exact w
  | gh _ _=>exact w
end
theorem PostU.trans {K:PySem.W.Frag} {G H:Hp} {so:So} {v1 v2:V} {d1 d2:DV} {H1 H2 G1 G2:Hp} (a:PostU K G so H v1 H1 G1 d1) (b:PostU K G1 so H1 v2 H2 G2 d2):PostU K G so H v2 H2 G2 d2:=
  ⟨a.ex.trans b.ex,b.hrep,fun c o e s=>b.keep c o (a.keep c o e s) s,fun c n g s=>b.frm c (by rw [abF a.keep n s];exact n) (a.frm c n g s) s,b.val,fun c o e q=>by
    cases z:H c with
    | none=>rfl
    | some u=>
      have n:=b.new c o e q
      by_cases s:so.Vol c
      · exact absurd n (a.hrep.vth s)
      · rw [a.keep c u z s] at n
        exact (nomatch n),b.nob⟩
theorem agR {K:PySem.W.Frag} {sp:SpD} {vs:List V} {H:Hp} {Q:VK} {E:XK} (h:upSp K sp vs H Q E):∃ G so args QD ED,HRep K G so H/\VsOk K G so H vs args/\sp args QD ED/\(∀ v H' G' dv,PostU K G so H v H' G' dv->(∀ o,dv≠.see o)->QD dv->Q v H')/\
    (∀ cls d H' G' fs,PostHU K G so H H' G'->XdOk K G' H' d fs->ED cls fs->E cls d H'):=by
  obtain ⟨G,so,as,QD,ED,hrep,wv,q,hq,hx⟩:=h
  exact ⟨G,so.drop,as,QD,ED,hrep.drop,wv.drop,q,fun v H' G' dv p n z=>hq v H' G' dv (p.back hrep n) z,fun cls d H' G' fs p z1 z2=>hx cls d H' G' fs (p.back hrep) z1 z2⟩
structure FnG (P:Program) (w:World) (K:PySem.W.Frag) (mg:Str->Option Value) (base:Heap) (k:Nat) (f:Addr) (fd:FuncData) (ps:List Str) (sp:SpD):Prop where
  len:∀ args Q E,sp args Q E->args.length=ps.length
  run:∀ (A:Around) (outer:List Env) (s:Shared) (H:Hp) (args:Args) (us:List Value) (vs:List V) (Q:VK) (E:XK),Room k A->A.guards=some []->Env0 P w K mg base A outer s H->BindsTo s fd args (ps.zip us)->Vals vs us->upSp K sp vs H Q E->
    codeAny (model P w) A (.call (.ref f) args) (CR (L2N.CX P w) outer P w H s Q E) s
theorem FnG.mono {P:Program} {w:World} {K:PySem.W.Frag} {mg:Str->Option Value} {base:Heap} {j k:Nat} {f:Addr} {fd:FuncData} {ps:List Str} {sp:SpD} (F:FnG P w K mg base j f fd ps sp) (h:j<=k):FnG P w K mg base k f fd ps sp:=
  ⟨F.len,fun A outer s H args us vs Q E hr=>F.run A outer s H args us vs Q E (hr.mono h)⟩
def startD (N:List Str) (args:List DV):DSt:=args.map some++List.replicate (N.length - args.length) none
theorem VsOk.get {K:PySem.W.Frag} {G:Hp} {so:So} {H:Hp}:∀ {vs:List V} {ds:List DV} {i:Nat} {d:DV},VsOk K G so H vs ds->ds[i]?=some d->∃ v,vs[i]?=some v/\VOk K G so H v d/\∀ o,d≠.own o
  | _,_,_,_,.nil,e=>by simp at e
  | _,_,0,_,.cons h n _,e=>by simp at e;subst e;exact ⟨_,rfl,h,n⟩
  | _,_,i + 1,_,.cons _ _ t,e=>by
    obtain ⟨v,h1,h2⟩:=VsOk.get (i:=i) t (by simpa using e)
    exact ⟨v,by simpa using h1,h2⟩
theorem aaX {N:List Str} {args:List DV} {i:Nat} {d:DV} (h:(startD N args)[i]?=some (some d)):args[i]?=some d:=by
  unfold startD at h
  by_cases hi:i < args.length
  · rw [List.getElem?_append_left (by simpa using hi),List.getElem?_map] at h
    cases e:args[i]? with
    | none=>rw [e] at h;cases h
    | some a=>rw [e] at h;cases h;rfl
  · rw [List.getElem?_append_right (by simpa using hi),List.getElem?_replicate] at h
    split at h<;>cases h
theorem agl {K:PySem.W.Frag} {G:Hp} {so:So} {H:Hp} {N:List Str} {vs:List V} {args:List DV} (h:HRep K G so H) (w:VsOk K G so H vs args) (ns:∀ (i:Nat) (o:OO),args[i]?≠some (.see o)):Rep K G so (L2.start N vs) H (startD N args):=by
  have lv:=w.length
  have no:∀ a,¬ Own (startD N args) (L2.start N vs) a:=fun a ⟨i,o,e,_⟩=>by
    obtain ⟨_,_,_,n⟩:=w.get (aaX e)
    exact n o rfl
  refine ⟨h,by unfold startD L2.start;simp [lv],fun i d e=>?_,fun i j o o' a e1 _ _ _=>?_,fun i o a _ _=>no a,fun i o e=>ns i o (aaX e)⟩
  · obtain ⟨v,e1,e2,_⟩:=w.get (aaX e)
    refine ⟨v,?_,VOk.slot e2⟩
    unfold L2.start
    have hi:i < vs.length:=(List.getElem?_eq_some_iff.mp e1).1
    rw [List.getElem?_append_left (by simpa using hi),List.getElem?_map,e1];rfl
  · obtain ⟨_,_,_,n⟩:=w.get (aaX e1)
    exact absurd rfl (n o)
def retQ (Q:DV->Prop):DV->Prop
  | .see _=>False
  | .bor _=>False
  | .mu _ _ _=>False
  | .gh _ _=>False
  | v=>Q v
theorem agj {Q:DV->Prop} {v:DV} (h:retQ Q v):(∀ o,v≠.bor o)/\Q v:=by
  cases v with
  | d x=>exact ⟨fun _ z=>(nomatch z),h⟩
  | src=>exact ⟨fun _ z=>(nomatch z),h⟩
  | own o=>exact ⟨fun _ z=>(nomatch z),h⟩
  | bor o=>exact h.elim
  | see o=>exact h.elim
  | mu _ _ _=>exact h.elim
  | gh _ _=>exact h.elim
theorem ahO {Q:DV->Prop} {v:DV} (h:retQ Q v):∀ o,v≠.see o:=by
  cases v with
  | see o=>exact h.elim
  | _=>exact fun _ z=>(nomatch z)
theorem aht {P:Program} {w:World} {K:PySem.W.Frag} {mg:Str->Option Value} {base:Heap} {x qual:Str} {params:Arguments} {body:List Stmt} {scope:Scope} {dvs:List V} {kws:List (Str × V)} {f:Addr} {fd:FuncData} {N ps:List Str} {k:Nat} {sp:SpD} {t:TDS}
    (F:FunD K x qual params body scope dvs kws f fd) (S:FnScope N ps scope) (len:∀ args Q E,sp args Q E->args.length=ps.length) (nsee:∀ args Q E,sp args Q E->∀ (i:Nat) (o:OO),args[i]?≠some (.see o))
    (hd:∀ (cdv:Value) (A:Around) (outer:List Env) (s:Shared) (H:Hp) (E:XK),Room k (A.deeper (envOfC qual scope s.heap.objs.size f cdv))->(cxOf (L2N.CX P w) P w K mg base N qual scope f cdv A outer s H E).A.guards=some []->
      DSs (cxOf (L2N.CX P w) P w K mg base N qual scope f cdv A outer s H E) (fun cls d _ H'=>E cls d H') body t)
    (hr:∀ args Q E,sp args Q E->t { nx:=fun _=>Q (.d .non),rt:=fun v _=>retQ Q v,bk:=fun _=>False,ct:=fun _=>False,xc:=fun cls fs _=>E cls fs } (startD N args)):FnG P w K mg base (k + 1) f fd ps sp:=by
  obtain ⟨oc,od,dV,kV,doc,pm,an,cdv,ct,osl,rfl,lk,hcd,_,_⟩:=F.ex
  refine ⟨len,fun A outer s H args us vs Q E hroom hg e0 hb r hsp=>?_⟩
  obtain ⟨G,so,as,QD,ED,hrep,wv,q,hq,hx⟩:=agR hsp
  have hl:vs.length=ps.length:=wv.length.trans (len _ _ _ q)
  have KX:K.In s.heap:=e0.mod.kin.keeps fun b o e=>(e0.bs b o e).1
  have lim:s.heap.NoLimit:=e0.mod.nolimit.keeps fun b o e=>(e0.bs b o e).1
  have hkind:((ps.zip us).all fun y=>scope.names.lookup y.1 == some .local || scope.names.lookup y.1 == some .cell)=true:=by
    rw [List.all_eq_true]
    rintro ⟨n,u⟩ hy
    rcases S.par n (List.of_mem_zip hy).1 with z | z
    · show (scope.names.lookup n == some .local || _)=true
      rw [z];rfl
    · show (scope.names.lookup n == some .local || scope.names.lookup n == some .cell)=true
      rw [z];rfl
  refine Att.call_fn KX lim lk hcd hroom.depth hb hkind (fun s1 x=>?_) S.co S.gen S.kind
  have I:=inv_start (CX:=L2N.CX P w) (E:=E) S hroom.hd e0 hl r x
  have rep:Rep K G so (L2.start N vs) H (startD N as):=agl hrep wv (nsee _ _ _ q)
  have no:∀ a,¬ Own (startD N as) (L2.start N vs) a:=fun a ⟨i,o,e,_⟩=>by
    obtain ⟨_,_,_,n⟩:=wv.get (aaX e)
    exact n o rfl
  have body:=(hd cdv A outer s H E (hroom.deeper _) hg).run [] s1 (L2.start N vs) H { nx:=fun _ H'=>Q .non H',rt:=Q } I ⟨G,so,startD N as,_,rep,hr as QD ED q,
    ⟨fun σ' H' G' sl' p z=>hq .non H' G' (.d .non) ⟨p.ex,p.rep.h,fun a o e sa=>p.keep a o e sa (no a),fun a n g sa=>p.frm a n g sa (no a),.non,fun _ _ e=>(nomatch e),fun _ e=>(nomatch e)⟩ (fun _ e=>(nomatch e)) z,
     fun _ _ _ _ _ z=>z.elim,fun _ _ _ _ _ z=>z.elim,
     fun v H' G' dv _ p z=>hq v H' G' dv ⟨p.ex,p.hrep,fun a o e sa=>p.keep a o e sa (no a),fun a n g sa=>p.frm a n g sa (no a),p.val,fun a o e e2=>(p.new a o e e2).elim (fun k=>k) fun k=>absurd k (no a),(agj z).1⟩ (ahO z) (agj z).2,
     fun cls d σ' H' G' fs sl' p z1 z2=>hx cls d H' G' fs ⟨p.ex,p.rep.h,fun a o e sa=>p.keep a o e sa (no a),fun a n g sa=>p.frm a n g sa (no a)⟩ z1 z2⟩⟩
  refine wpAny_mono body (fun fl s' hs=>?_) fun e s' hs=>hs
  cases fl with
  | ret u=>
    obtain ⟨v,σ',H',J,rv,z⟩:=hs
    exact ⟨v,H',J.os,J.bare,J.base,J.hok,rv,z⟩
  | next=>
    obtain ⟨σ',H',J,z⟩:=hs
    exact ⟨.non,H',J.os,J.bare,J.base,J.hok,rfl,z⟩
  | brk=>
    obtain ⟨_,_,_,z⟩:=hs
    exact False.elim z
  | cont=>
    obtain ⟨_,_,_,z⟩:=hs
    exact False.elim z
inductive Sel where
  | pos (i:Nat) | kw (j:Nat) | dfl (v:V) (d:D)
def pickV (vs qs:List V):Sel->V
  | .pos i=>vs.getD i .non
  | .kw j=>qs.getD j .non
  | .dfl v _=>v
def pickD (vs qs:List DV):Sel->DV
  | .pos i=>vs.getD i (.d .non)
  | .kw j=>qs.getD j (.d .non)
  | .dfl _ d=>.d d
structure Bd (K:PySem.W.Frag) (fd:FuncData) (ps:List Str) (n:Nat) (ks:List Str) (sel:List Sel):Prop where
  to:∀ (s:Shared) (us ws:List Value) (vs qs:List V),K.In s.heap->us.length=n->ws.length=ks.length->Vals vs us->Vals qs ws->∃ zs,BindsTo s fd ⟨us,ks.zip ws⟩ (ps.zip zs)/\Vals (sel.map (pickV vs qs)) zs
  dok:∀ s∈sel,∀ (v:V) (d:D),s=.dfl v d->∀ G,DOk K G v d
theorem VsOk.getD {K:PySem.W.Frag} {G:Hp} {so:So} {H:Hp}:∀ {vs:List V} {ds:List DV} (i:Nat),VsOk K G so H vs ds->VOk K G so H (vs.getD i .non) (ds.getD i (.d .non))/\∀ o,ds.getD i (.d .non)≠.own o
  | _,_,_,.nil=>⟨.non,fun _ e=>(nomatch e)⟩
  | _,_,0,.cons h n _=>⟨h,n⟩
  | _,_,i + 1,.cons _ _ t=>VsOk.getD i t
theorem VsOk.pick {K:PySem.W.Frag} {G:Hp} {so:So} {H:Hp} {vs qs:List V} {ds es:List DV} (h:VsOk K G so H vs ds) (h2:VsOk K G so H qs es):∀ (sel:List Sel),(∀ s∈sel,∀ (v:V) (d:D),s=.dfl v d->∀ G,DOk K G v d)->VsOk K G so H (sel.map (pickV vs qs)) (sel.map (pickD ds es))
  | [],_=>.nil
  | .pos i::r,k=>.cons (h.getD i).1 (h.getD i).2 (VsOk.pick h h2 r fun s hs=>k s (List.mem_cons_of_mem _ hs))
  | .kw j::r,k=>.cons (h2.getD j).1 (h2.getD j).2 (VsOk.pick h h2 r fun s hs=>k s (List.mem_cons_of_mem _ hs))
  | .dfl v d::r,k=>.cons (k _ (List.mem_cons_self ..) v d rfl G) (fun _ e=>(nomatch e)) (VsOk.pick h h2 r fun s hs=>k s (List.mem_cons_of_mem _ hs))
def dCall (sp:SpD) (n m:Nat) (sel:List Sel) (ta tk:TDA):TD:=fun sl Q E=>ta sl (fun xs s1=>tk s1 (fun ys s2=>xs.length=n/\ys.length=m/\sp (sel.map (pickD xs ys)) (fun v=>Q v s2) fun cls fs=>E cls fs s2) E) E
def DK (X:Cx) (W:WX) (kws:List Keyword) (t:TDA):Prop:=PK X kws (upA X.K W t)
section
variable {X:Cx} {W:WX} {k n:Nat} {f:Addr} {fd:FuncData} {ps ks:List Str} {sp:SpD} {sel:List Sel} {x nm:Str} {p pos kpos:Pos} {e:Expr} {es:List Expr} {kws:List Keyword} {ta tk tk':TDA} {te:TD}
theorem ahn {t t':TA} (h:PK X kws t) (g:∀ σ H R,t' σ H R->t σ H R):PK X kws t':=⟨fun pos pins s σ H Q I q=>h.run pos pins s σ H Q I (g _ _ _ q)⟩
theorem aca:DK X W [] dNil:=ahn pk_nil fun σ H R ⟨G,so,sl,Q,E,rep,q,hq,_⟩=>hq [] H G [] sl (.refl rep) .nil q
theorem abx (ha:DE X W e te) (hr:DK X W kws tk):DK X W (⟨nm,e,kpos⟩::kws) (dCons te tk):=by
  refine ahn (pk_cons ha hr) fun σ H R ⟨G,so,sl,Q,E,rep,q,hq,hx⟩=>?_
  refine ⟨G,so,sl,_,E,rep,q,fun x H1 G1 dx s1 p1 h1=>?_,hx⟩
  obtain ⟨G1',p1'⟩:=p1.pub
  refine ⟨G1',so,s1,_,E,p1'.rep,h1,fun vs H2 G2 ds s2 p2 w h2=>?_,hx.step p1'.toPost⟩
  exact hq (x::vs) H2 G2 (pubV dx::ds) s2 (p1'.toPost.trans p2) (.cons (p1'.over p2) (afG dx) w) h2
theorem ahN {pins:List (Addr × Obj)} {σ:L2.St} {H G:Hp} {so:So} {sl:DSt} {s:Shared} {Q:VK} {us ws:List Value} {vs qs:List V} {ds es:List DV} {Q':DV->DSt->Prop} {E:XP} (F:FnG X.prog X.w X.K X.mg X.base k f fd ps sp) (hr:Room k X.A) (hg:X.A.guards=some []) (tk:L2N.Takes X W) (hb:Bd X.K fd ps n ks sel)
    (I:Inv X pins σ H s) (rep:Rep X.K G so σ H sl) (r:Vals vs us) (r2:Vals qs ws) (w:VsOk X.K G so H vs ds) (w2:VsOk X.K G so H qs es) (l1:ds.length=n) (l2:es.length=ks.length)
    (q:sp (sel.map (pickD ds es)) (fun v=>Q' v sl) fun cls fs=>E cls fs sl) (hq:∀ v H' G' dv sl',PostE X.K G so σ H sl v H' G' dv sl'->Q' dv sl'->Q v H') (hx:XOk X.K W G so σ H sl E) :
    wpAny (model X.prog X.w) X.A (call (.ref f) us (ks.zip ws)) (EP X pins σ Q) X.xe s:=by
  obtain ⟨zs,bt,rz⟩:=hb.to s us ws vs qs I.kIn (by rw [<- r.length,w.length,l1]) (by rw [<- r2.length,w2.length,l2]) r r2
  have pk:=w.pick w2 sel hb.dok
  refine wpAny_call (codeAny_mono (F.run X.A X.stack s H ⟨us,ks.zip ws⟩ zs (sel.map (pickV vs qs)) Q (fun cls d H'=>W cls d σ H') hr hg I.env0 bt rz ⟨G,so,_,_,_,rep.h,pk,q,fun v H' G' dv pv z=>hq v H' G' dv sl (pv.slots rep) z,fun cls d H' G' fs ph z1 z2=>?_⟩) fun r s' hz=>?_)
  · have pn:PostV X.K G so H .non H' G' (.d .non):=⟨ph.ex,ph.hrep,ph.keep,ph.frm,.non,fun _ _ e=>(nomatch e),fun _ e=>(nomatch e)⟩
    exact hx cls d H' G' fs sl (pn.slots rep).toPost z1 z2
  · cases r with
    | error e=>exact tk e s' (L2N.XE.of_call I (fun _ _ _ z=>z) hz)
    | ok fl=>
      cases fl with
      | ret u=>exact I.after hz
      | next=>exact False.elim hz
      | brk=>exact False.elim hz
      | cont=>exact False.elim hz
theorem acG (F:FnG X.prog X.w X.K X.mg X.base k f fd ps sp) (hr:Room k X.A) (hgd:X.A.guards=some []) (tk:L2N.Takes X W) (hb:Bd X.K fd ps n [] sel) (hg:Gl X x) (hm:X.mg x=some (.ref f)) (hk:PySem.W.keepIn X.K (.ref f)=true)
    (ha:DA X W (e::es) ta) (hdb:(x == ("__debug__":Str))=false:=by decide) (he:starEach (e::es) X.env=(false,eval e X.env)::starEach es X.env:=by rfl) (hpl:(backTo pos (starEach es X.env)).any (·.1)=false:=by rfl) :
    DE X W (.Call (.Name x p) (e::es) [] pos) (dCall sp n 0 sel ta dNil):=by
  refine ⟨fun pins s σ H Q I ⟨G,so,sl,Q',E,rep,q,hq,hx⟩=>wpAny_Call_Name_kw (ld_glob I hg hm ?_ hdb)⟩
  refine PySem.W.callWith_K (h₀:=X.base) I.ok.mod.kin hk (thn (ha.run pos pins s σ H (fun vs H1=>∃ G1 ds s1,Post X.K G so σ H sl H1 G1 s1/\VsOk X.K G1 so H1 vs ds/\ds.length=n/\sp (sel.map (pickD ds [])) (fun v=>Q' v s1) fun cls fs=>E cls fs s1) I
    ⟨G,so,sl,_,E,rep,q,fun vs H1 G1 ds s1 p1 w z=>⟨G1,ds,s1,p1,w,z.1,z.2.2⟩,hx⟩) fun us s1 ⟨vs,H1,I1,r,G1,ds,sl1,p1,w,l1,z⟩=>⟨I1.kIn,?_⟩) he hpl
  exact ahN (ws:=[]) (qs:=[]) (es:=[]) F hr hgd tk hb I1 p1.rep r .nil w .nil l1 rfl z (fun v H' G' dv sl' pe z'=>hq v H' G' dv sl' (p1.thenE pe) z') (hx.step p1)
end
section
variable {X:Cx} {W:WX} {x:Str} {p pos:Pos} {e:Expr} {es:List Expr} {ta:TDA} {id T:String} {r:List V->Hp->VK->Prop} {rd:List DV->(DV->Prop)->Prop}
theorem afh (hc:CallR X (.builtin id) r) (hr:CallSem X.K r rd) (hg:Gl X x) (hm:X.mg x=none) (hv:bootBuiltins x=some (.builtin id)) (ha:DA X W (e::es) ta) (hn:x≠"__name__":=by decide) (hdb:(x == ("__debug__":Str))=false:=by decide)
    (he:starEach (e::es) X.env=(false,eval e X.env)::starEach es X.env:=by rfl) (hpl:(backTo pos (starEach es X.env)).any (·.1)=false:=by rfl):DE X W (.Call (.Name x p) (e::es) [] pos) (dCB rd ta):=abD (pe_callB hc hg hm hv ha hn hdb he hpl) fun _ _ _ h=>up_cb hr h
end
@[irreducible] def lenR:List DV->(DV->Prop)->Prop
  | [.d (.str z)],Q=>z.length<=szl/\Q (.d (.int z.length))
  | [.d (.tup ds)],Q=>Q (.d (.int ds.length))
  | [v],Q=>match v.items with
    | some ds=>Q (.d (.int ds.length))
    | none=>False
  | _,_=>False
section
variable {K:PySem.W.Frag} {X:Cx}
def rLen1 (K:PySem.W.Frag):List V->Hp->VK->Prop:=fun xs H Q=>∃ x n,xs=[x]/\LenV K x H n/\Q (.int n) H
theorem ahK:CallSem K (rLen1 K) lenR:=by
  intro G so H xs dxs Q R h w q k
  unfold lenR at q
  split at q
  · obtain ⟨v,rfl,w1,_⟩:=w.v1
    cases w1
    exact ⟨_,_,rfl,⟨by rw [<- ab7];exact q.1,rfl⟩,k _ H G _ (.dat h (.int _)) q.2⟩
  · obtain ⟨v,rfl,w1,_⟩:=w.v1
    obtain ⟨a,vs,rfl,g1,a1⟩:=VOk.tup h w1
    exact ⟨_,_,rfl,.inr ⟨vs,g1,rfl⟩,k _ H G _ (.dat h (by rw [a1.length];exact .int _)) q⟩
  · obtain ⟨v,rfl,w1,_⟩:=w.v1
    split at q
    · rename_i e
      obtain ⟨a,vs,rfl,g1,a1⟩:=VOk.list h w1 e
      exact ⟨_,_,rfl,.inl ⟨vs,SqL.of g1,rfl⟩,k _ H G _ (.dat h (by rw [a1.length];exact .int _)) q⟩
    · exact q.elim
  · exact q.elim
def tyD:D->Option String
  | .non=>some "NoneType"
  | .bl _=>some "bool"
  | .int _=>some "int"
  | .str _=>some "str"
  | .lst _=>some "list"
  | .tup _=>some "tuple"
  | .kt _=>some "tuple"
  | _=>none
def flatD:D->Bool
  | .non=>true
  | .bl _=>true
  | .int _=>true
  | .str _=>true
  | _=>false
def eqF:D->D->Bool
  | .non,.non=>true
  | .bl a,.bl b=>a == b
  | .bl a,.int b=>(if a then 1 else 0) == b
  | .int a,.bl b=>a == (if b then 1 else 0)
  | .int a,.int b=>a == b
  | .str a,.str b=>a == b
  | _,_=>false
def inF (x:D) (ds:List D):Bool:=ds.any fun y=>eqF y x
@[irreducible] def inSeqR (neg:Bool):DV->DV->(DV->Prop)->Prop
  | .d x,.d (.tup ds),Q=>flatD x=true/\ds.all flatD=true/\Q (.d (.bl (if neg then !inF x ds else inF x ds)))
  | .d x,y,Q=>match y.items with
    | some ds=>flatD x=true/\ds.all flatD=true/\Q (.d (.bl (if neg then !inF x ds else inF x ds)))
    | none=>False
  | _,_,_=>False
@[irreducible] def inR (neg:Bool):DV->DV->(DV->Prop)->Prop
  | .d (.str w),.d (.str z),Q=>match w.cps.toList with
    | [c]=>Q (.d (.bl (if neg then !decide (c∈z.cps.toList) else decide (c∈z.cps.toList))))
    | _=>False
  | x,y,Q=>inSeqR neg x y Q
theorem afA {G:Hp} {v:V} {d:D} (w:DOk K G v d) (f:flatD d=true):flatV v=true:=by
  cases w<;>first | rfl | (exact absurd f (by simp [flatD]))
theorem aiv {G:Hp} {v u:V} {d e:D} (w:DOk K G v d) (w2:DOk K G u e) (f:flatD d=true) (f2:flatD e=true):eqV v u=eqF d e:=by
  cases w<;>cases w2<;>first | rfl | (exfalso;revert f f2;simp [flatD];done)
theorem afe {G:Hp}:∀ {vs:List V} {ds:List D},DAll K G vs ds->ds.all flatD=true->vs.all flatV=true
  | _,_,.nil,_=>rfl
  | _,_,.cons h t,f=>by
    rw [List.all_cons,Bool.and_eq_true] at f
    rw [List.all_cons,afA h f.1,afe t f.2];rfl
theorem ahZ {G:Hp} {v:V} {x:D} (w:DOk K G v x) (f:flatD x=true):∀ {vs:List V} {ds:List D},DAll K G vs ds->ds.all flatD=true->inV v vs=inF x ds
  | _,_,.nil,_=>rfl
  | _,_,.cons h t,g=>by
    rw [List.all_cons,Bool.and_eq_true] at g
    have ih:=ahZ w f t g.2
    unfold inV inF at ih ⊢
    rw [List.any_cons,List.any_cons,aiv h w g.1 f,ih]
theorem agd (neg:Bool):OpSem K (rIn K neg) (inSeqR neg):=by
  intro G so H x y dx dy Q R h wx wy q k
  unfold inSeqR at q
  split at q
  · obtain ⟨a,vs,rfl,g1,a1⟩:=VOk.tup h wy
    exact ⟨a,vs,rfl,.inr g1,afA wx q.1,afe a1 q.2.1,by rw [ahZ wx q.1 a1 q.2.1];exact k _ H G _ (.dat h (.bl _)) q.2.2⟩
  · split at q
    · rename_i e
      obtain ⟨a,vs,rfl,g1,a1⟩:=VOk.list h wy e
      exact ⟨a,vs,rfl,.inl (SqL.of g1),afA wx q.1,afe a1 q.2.1,by rw [ahZ wx q.1 a1 q.2.1];exact k _ H G _ (.dat h (.bl _)) q.2.2⟩
    · exact q.elim
  · exact q.elim
def rInAll (K:PySem.W.Frag):R2:=fun x y H Q=>(∃ (c:Nat) (z:Str),x=.str ⟨#[c]⟩/\y=.str z/\Q (.bl (decide (c∈z.cps.toList))) H)\/rIn K false x y H Q
theorem acK:OpR X (compareOp .In) (rInAll X.K):=OpR.or op_in_sign op_in_seq
theorem ag8 {w:Str} {c:Nat} (e:w.cps.toList=[c]):w=⟨#[c]⟩:=by
  obtain ⟨a⟩:=w
  have:a=#[c]:=by
    apply Array.toList_inj.mp
    exact e
  rw [this]
theorem aeW:OpSem K (rInAll K) (inR false):=by
  intro G so H x y dx dy Q R h wx wy q k
  unfold inR at q
  split at q
  · split at q
    · rename_i c e
      cases wx;cases wy
      exact .inl ⟨c,_,by rw [ag8 e],rfl,k _ H G _ (.dat h (.bl _)) q⟩
    · exact q.elim
  · exact .inr (agd false G so H x y dx dy Q R h wx wy q k)
@[irreducible] def ixR:DV->DV->(DV->Prop)->Prop
  | .d (.tup ds),.d (.int i),Q=>match atI ds i with
    | some d=>Q (.d d)
    | none=>False
  | .d (.str z),.d (.int i),Q=>z.length<=szl/\match atI z.cps.toList i with
    | some c=>Q (.d (.str ⟨#[c]⟩))
    | none=>False
  | v,.d (.int i),Q=>match v.items with
    | some ds=>match atI ds i with
      | some d=>Q (.d d)
      | none=>False
    | none=>False
  | _,_,_=>False
theorem ahC {G:Hp} {vs:List V} {ds:List D} {i:Int} {d:D} (a:DAll K G vs ds) (e:atI ds i=some d):∃ v,atI vs i=some v/\DOk K G v d:=by
  unfold atI at e ⊢
  rw [a.length]
  cases z:ixN ds.length i with
  | none=>rw [z] at e;cases e
  | some j=>rw [z] at e;exact a.get e
theorem aie:OpSem K (rIx K) ixR:=by
  intro G so H x y dx dy Q R h wx wy q k
  unfold ixR at q
  split at q
  · split at q
    · rename_i e
      obtain ⟨a,vs,rfl,g1,a1⟩:=VOk.tup h wx
      cases wy
      obtain ⟨v,e1,e2⟩:=ahC a1 e
      exact .inr (.inl ⟨a,vs,_,v,rfl,rfl,g1,e1,k _ H G _ (.dat h e2) q⟩)
    · exact q.elim
  · cases wx;cases wy
    obtain ⟨q1,q⟩:=q
    split at q
    · rename_i e
      exact .inr (.inr ⟨_,_,_,rfl,rfl,by rw [<- ab7];exact q1,e,k _ H G _ (.dat h (.str _)) q⟩)
    · exact q.elim
  · split at q
    · rename_i e
      split at q
      · rename_i e0
        obtain ⟨a,vs,rfl,g1,a1⟩:=VOk.list h wx e
        cases wy
        obtain ⟨v,e1,e2⟩:=ahC a1 e0
        exact .inl ⟨a,vs,_,v,rfl,rfl,SqL.of g1,e1,k _ H G _ (.dat h e2) q⟩
      · exact q.elim
    · exact q.elim
  · exact q.elim
end
abbrev TDO:=DSt->(Option Int->DSt->Prop)->XP->Prop
def cut {α:Type} (xs:List α) (lo hi:Option Int):List α:=(xs.drop (HT.sIx xs.length 0 lo)).take (HT.sIx xs.length xs.length hi - HT.sIx xs.length 0 lo)
section
variable {X:Cx} {W:WX} {e:Expr} {te:TD} {tl th:TDO} {pos p2:Pos} {lo hi:Option Expr} {K:PySem.W.Frag}
end
section
variable {X:Cx} {W:WX} {o e:Expr} {to te:TD} {apos pos:Pos}
end
def rReprD (K:PySem.W.Frag):List V->Hp->VK->Prop:=fun xs H Q=>∃ (a:Addr) (d:PyData),xs=[.ref a]/\Dp K H (.ref a) d/\SeqAt.shaped d=true/\d.showable=true/\d.shown.length<=sizeLine/\Q (.str d.shown) H
theorem aeY {X:Cx} (hg:X.A.guards=some []) (hu:X.A.units + 65 < cLine):CallR X (.builtin "repr") (rReprD X.K):=by
  intro pins s σ H xs us Q I r h
  obtain ⟨a,d,rfl,hd,hs,hw,hz,q⟩:=h
  obtain ⟨u,rfl,ru⟩:=vals1 r
  cases ru
  obtain ⟨as,rd⟩:=Dp.reads I d _ _ hd (show RelV (.ref a) (.ref a) from rfl)
  have dd:=SeqAt.depth_of_shaped hs
  exact repr_of_reads' rd hw (PyData.noDict_hsm (PyData.hasDict_of_canLay _ (SeqAt.canLay_of_shaped hs))) hg (by omega) (fun _ _ e=>e) (fun h' u tk hk=>⟨.str d.shown,H,I.kept hk,⟨_,rfl⟩,q⟩) hz
@[irreducible] def reprR:List DV->(DV->Prop)->Prop
  | [v],Q=>match v.dat with
    | some (.lst ds)=>match (D.lst ds).py with
      | some p=>SeqAt.shaped p=true/\p.showable=true/\p.shown.length<=szl/\Q (.d (.str p.shown))
      | none=>False
    | some (.tup ds)=>match (D.tup ds).py with
      | some p=>SeqAt.shaped p=true/\p.showable=true/\p.shown.length<=szl/\Q (.d (.str p.shown))
      | none=>False
    | _=>False
  | _,_=>False
theorem ahx {K:PySem.W.Frag} {G H:Hp} {so:So} {v:V} {dv:DV} {d:D} (w:VOk K G so H v dv) (e:dv.dat=some d) (h:(∃ ds,d=.lst ds)\/∃ ds,d=.tup ds):∃ a,v=.ref a:=by
  cases dv with
  | src=>cases e
  | mu _ _ _=>cases e
  | gh _ _=>cases e
  | own o=>obtain ⟨a,q,_⟩:=w;exact ⟨a,q⟩
  | bor o=>obtain ⟨a,q,_⟩:=w;exact ⟨a,q⟩
  | see o=>obtain ⟨a,q,_⟩:=w;exact ⟨a,q⟩
  | d x=>
    cases e
    rcases h with ⟨ds,rfl⟩ | ⟨ds,rfl⟩
    · cases w;exact ⟨_,rfl⟩
    · cases w;exact ⟨_,rfl⟩
theorem afF {K:PySem.W.Frag}:CallSem K (rReprD K) reprR:=by
  intro G so H xs dxs Q R h w q k
  unfold reprR at q
  split at q
  · obtain ⟨v,rfl,w1,_⟩:=w.v1
    split at q
    · rename_i ds e
      split at q
      · rename_i p ep
        obtain ⟨a,rfl⟩:=ahx w1 e (.inl ⟨ds,rfl⟩)
        exact ⟨a,p,rfl,w1.dp h e ep,q.1,q.2.1,by rw [<- ab7];exact q.2.2.1,k _ H G _ (.dat h (.str _)) q.2.2.2⟩
      · exact q.elim
    · rename_i ds e
      split at q
      · rename_i p ep
        obtain ⟨a,rfl⟩:=ahx w1 e (.inr ⟨ds,rfl⟩)
        exact ⟨a,p,rfl,w1.dp h e ep,q.1,q.2.1,by rw [<- ab7];exact q.2.2.1,k _ H G _ (.dat h (.str _)) q.2.2.2⟩
      · exact q.elim
    · exact q.elim
  · exact q.elim
structure FnR (P:Program) (w:World) (K:PySem.W.Frag) (mg:Str->Option Value) (base:Heap) (k:Nat) (f:Addr) (fd:FuncData) (ps:List Str) (sp:Sp):Prop where
  len:∀ vs H Q E,sp vs H Q E->vs.length=ps.length
  run:∀ (A:Around) (outer:List Env) (s:Shared) (H:Hp) (args:Args) (us:List Value) (vs:List V) (Q:VK) (E:XK),Room k A->A.guards=some []->Env0 P w K mg base A outer s H->BindsTo s fd args (ps.zip us)->Vals vs us->sp vs H Q E->
    codeAny (model P w) A (.call (.ref f) args) (CR (L2N.CX P w) outer P w H s Q E) s
theorem agF {P:Program} {w:World} {K:PySem.W.Frag} {mg:Str->Option Value} {base:Heap} {x qual:Str} {params:Arguments} {body:List Stmt} {scope:Scope} {dvs:List V} {kws:List (Str × V)} {f:Addr} {fd:FuncData} {N ps:List Str} {k:Nat} {sp:Sp}
    (F:FunD K x qual params body scope dvs kws f fd) (S:FnScope N ps scope) (len:∀ vs H Q E,sp vs H Q E->vs.length=ps.length)
    (hd:∀ (cdv:Value) (A:Around) (outer:List Env) (s:Shared) (H:Hp) (vs:List V) (Q:VK) (E:XK),Room k (A.deeper (envOfC qual scope s.heap.objs.size f cdv))->(cxOf (L2N.CX P w) P w K mg base N qual scope f cdv A outer s H E).A.guards=some []->sp vs H Q E->
      ∃ t,PSs (cxOf (L2N.CX P w) P w K mg base N qual scope f cdv A outer s H E) body t/\t { nx:=fun _ H'=>Q .non H',rt:=Q } (L2.start N vs) H):FnR P w K mg base (k + 1) f fd ps sp:=by
  obtain ⟨oc,od,dV,kV,doc,pm,an,cdv,ct,osl,rfl,lk,hcd,_,_⟩:=F.ex
  refine ⟨len,fun A outer s H args us vs Q E hroom hg e0 hb r hsp=>?_⟩
  have KX:K.In s.heap:=e0.mod.kin.keeps fun b o e=>(e0.bs b o e).1
  have lim:s.heap.NoLimit:=e0.mod.nolimit.keeps fun b o e=>(e0.bs b o e).1
  have hkind:((ps.zip us).all fun y=>scope.names.lookup y.1 == some .local || scope.names.lookup y.1 == some .cell)=true:=by
    rw [List.all_eq_true]
    rintro ⟨n,u⟩ hy
    rcases S.par n (List.of_mem_zip hy).1 with z | z
    · show (scope.names.lookup n == some .local || _)=true
      rw [z];rfl
    · show (scope.names.lookup n == some .local || scope.names.lookup n == some .cell)=true
      rw [z];rfl
  refine Att.call_fn KX lim lk hcd hroom.depth hb hkind (fun s1 x=>?_) S.co S.gen S.kind
  have I:=inv_start (CX:=L2N.CX P w) (E:=E) S hroom.hd e0 (len _ _ _ _ hsp) r x
  obtain ⟨t,pt,qt⟩:=hd cdv A outer s H vs Q E (hroom.deeper _) hg hsp
  refine wpAny_mono (pt.run [] s1 (L2.start N vs) H _ I qt) (fun fl s' hs=>?_) fun e s' hs=>hs
  cases fl with
  | ret u=>
    obtain ⟨v,σ',H',J,rv,z⟩:=hs
    exact ⟨v,H',J.os,J.bare,J.base,J.hok,rv,z⟩
  | next=>
    obtain ⟨σ',H',J,z⟩:=hs
    exact ⟨.non,H',J.os,J.bare,J.base,J.hok,rfl,z⟩
  | brk=>obtain ⟨_,_,_,z⟩:=hs;exact False.elim z
  | cont=>obtain ⟨_,_,_,z⟩:=hs;exact False.elim z
theorem FnR.g {P:Program} {w:World} {K:PySem.W.Frag} {mg:Str->Option Value} {base:Heap} {k:Nat} {f:Addr} {fd:FuncData} {ps:List Str} {sp:SpD} (F:FnR P w K mg base k f fd ps (upSp K sp)) (len:∀ args Q E,sp args Q E->args.length=ps.length):FnG P w K mg base k f fd ps sp:=⟨len,F.run⟩
theorem ag4 {X:Cx} {k:Nat} {f:Addr} {fd:FuncData} {ps:List Str} {sp:Sp} {x:Str} {p pos:Pos} {e:Expr} {es:List Expr} {t:TA} (F:FnR X.prog X.w X.K X.mg X.base k f fd ps sp) (hr:Room k X.A) (hgd:X.A.guards=some []) (hg:Gl X x) (hm:X.mg x=some (.ref f)) (hk:PySem.W.keepIn X.K (.ref f)=true) (hb:Binds X.K fd ps [])
    (ha:PA X (e::es) t) (hdb:(x == ("__debug__":Str))=false:=by decide) (he:starEach (e::es) X.env=(false,eval e X.env)::starEach es X.env:=by rfl) (hpl:(backTo pos (starEach es X.env)).any (·.1)=false:=by rfl) :
    PE X (.Call (.Name x p) (e::es) [] pos) (fun σ H Q=>t σ H fun vs H1=>sp vs H1 Q E0):=by
  refine ⟨fun pins s σ H Q I h=>wpAny_Call_Name_kw (ld_glob I hg hm ?_ hdb)⟩
  refine PySem.W.callWith_K (h₀:=X.base) I.ok.mod.kin hk (thn (ha.run pos pins s σ H _ I h) fun us s1 ⟨vs,H1,I1,r,q⟩=>⟨I1.kIn,?_⟩) he hpl
  have hl:(us++[]).length=ps.length:=by rw [List.append_nil,<- r.length];exact F.len _ _ _ _ q
  have hb2:=hb s1 us I1.kIn hl
  rw [List.append_nil] at hb2
  refine wpAny_call (codeAny_mono (F.run X.A X.stack s1 H1 ⟨us,[]⟩ us vs Q E0 hr hgd I1.env0 hb2 r q) fun r s' hq=>?_)
  cases r with
  | error e=>
    obtain ⟨_,_,_,_,_,_,_,_,_,_,_,_,z⟩:=hq
    exact False.elim z
  | ok fl=>
    cases fl with
    | ret u=>exact I1.after hq
    | next=>exact False.elim hq
    | brk=>exact False.elim hq
    | cont=>exact False.elim hq
section
variable {P:Program} {w:World} {K:PySem.W.Frag} {mg mb:Str->Option Value}
def ah0 (K:PySem.W.Frag) (tb:List Addr) (a:Addr) (o:Obj) (xs:List V):Hp:=fun b=>if b∈tb then some (.tbl #[]) else if b=a/\K.lookup a=none then some (.frz o (.lst xs)) else none
theorem heap0_cases {tb:List Addr} {a b:Addr} {o:Obj} {xs:List V} {u:HO} (h:ah0 K tb a o xs b=some u):(b∈tb/\u=.tbl #[])\/(b∉tb/\b=a/\K.lookup a=none/\u=.frz o (.lst xs)):=by
  unfold ah0 at h
  by_cases q:b∈tb
  · rw [if_pos q] at h;cases h;exact .inl ⟨q,rfl⟩
  · rw [if_neg q] at h
    by_cases z:b=a/\K.lookup a=none
    · rw [if_pos z] at h;cases h;exact .inr ⟨q,z.1,z.2,rfl⟩
    · rw [if_neg z] at h;cases h
theorem agy {k:Nat} {fa a:Addr} {cs:List (Addr × Addr)} {fd:FuncData} {x:Str} {sp:Sp} {s1:Shared} {vs:List Value} {ns:List Int}
    (KX:K.In s1.heap) (hns:s1.heap.Ns mainGlobals mg) (hb:s1.heap.Ns builtinsNs mb) (hbb:∀ x:Str,x≠"__name__"->mb x=bootBuiltins x) (hlim:s1.heap.NoLimit) (hg:s1.gens=#[])
    (tE:∀ q∈cs,s1.heap.get? q.2=some { cls:=.none,data:=.fields #[] }) (tN:∀ q∈cs,K.lookup q.2=none) (tC:∀ q∈cs,PySem.W.CodeHd s1.heap q.1 q.2)
    (bmn:∃ (bm:Addr) (ob:Obj),mg "__builtins__"=some (.ref bm)/\bm≠builtinsNs/\s1.heap.get? bm=some ob/\ob.cls=.type "module"/\ob.dict=some builtinsNs/\ob.data=.plain)
    (ha:s1.heap.get? a=some { cls:=.type "list",data:=.seq vs.toArray }) (hi:IntsAre vs ns) (hl:ns.length<=sizeLine) (hr:Room k callerA)
    (F:∀ base:Heap,K.In base->base.Ns mainGlobals mg->(∀ q∈cs,LamX.TabB base mg q.1 q.2)->FnR P w K mg base k fa fd [x] sp) (hbind:∀ (s:Shared) (u:Value),BindsTo s fd ⟨[u],[]⟩ [(x,u)])
    (hsp:∀ H:Hp,(∀ q∈cs,H q.2=some (.tbl #[]))->SqL K H a (ns.map V.int)->sp [.ref a] H (fun v _=>v=.bl true) fun _ _ _=>False) :
    codeAny (model P w) callerA (.call (.ref fa) ⟨[.ref a],[]⟩) (fun r s'=>r=.ok (.ret (.bool true))/\OldK s1.heap s'.heap/\s'.os=s1.os/\AllBare s'.gens) s1:=by
  have rv:=vals_ints hi
  let O:Obj:={ cls:=.type "list",data:=.seq vs.toArray }
  let H:=ah0 K (cs.map Prod.snd) a O (ns.map V.int)
  have tb:∀ b∈cs.map Prod.snd,s1.heap.get? b=some { cls:=.none,data:=.fields #[] }:=fun b hm=>by
    obtain ⟨q,hq,rfl⟩:=List.mem_map.mp hm
    exact tE q hq
  have na:a∉cs.map Prod.snd:=fun z=>by
    have y:=ha.symm.trans (tb a z)
    cases y
  have inT:∀ b∈cs.map Prod.snd,H b=some (.tbl #[]):=fun b hm=>if_pos hm
  have hok:HOk P w H s1.heap:=fun b u e=>by
    rcases heap0_cases e with ⟨hm,rfl⟩ | ⟨_,rfl,_,rfl⟩
    · exact tb b hm
    · exact ⟨ha,by rw [List.length_map];exact hl,vs,_,rv,ha⟩
  have hS:SqL K H a (ns.map V.int):=by
    cases hk:K.lookup a with
    | none=>exact .inl (.inr ⟨O,(if_neg na).trans (if_pos ⟨rfl,hk⟩)⟩)
    | some o=>
      have e:=KX a o hk
      rw [ha] at e;cases e
      refine .inr ⟨_,vs.toArray,_,hk,rfl,rfl,rfl,?_,by simpa using rv⟩
      rw [List.size_toArray,hi.length];exact hl
  have free:∀ {b:Addr} {o:Obj},s1.heap.get? b=some o->(∀ xs n,o.data≠.seq xs n)->o.data≠.fields #[]->H b=none:=fun {b o} e n1 n2=>by
    cases q:H b with
    | none=>rfl
    | some u=>
      rcases heap0_cases q with ⟨hm,_⟩ | ⟨_,rfl,_,_⟩
      · have y:=(tb b hm).symm.trans e
        cases y;exact absurd rfl n2
      · have y:=ha.symm.trans e
        cases y;exact absurd rfl (n1 _ _)
  have lay:∀ {b:Addr} {o:Obj},s1.heap.get? b=some o->H b=none->(hidT s1.heap H).get? b=some o:=fun e n=>hidT_get e n
  have plain:∀ {b:Addr} {m:Str->Option Value},s1.heap.Ns b m->(hidT s1.heap H).Ns b m:=fun {b m} ⟨o,es,ep,e,d,r⟩=>
    ⟨o,es,ep,lay e (free e (fun xs n z=>by rw [d] at z;cases z) fun z=>by rw [d] at z;cases z),d,r⟩
  have hKb:K.In (hidT s1.heap H):=fun b o e=>lay (KX b o e) (by
    cases q:H b with
    | none=>rfl
    | some u=>
      rcases heap0_cases q with ⟨hm,_⟩ | ⟨_,rfl,z,_⟩
      · obtain ⟨y,hy,rfl⟩:=List.mem_map.mp hm
        rw [tN y hy] at e;cases e
      · rw [z] at e;cases e)
  have TB:∀ q∈cs,LamX.TabB (hidT s1.heap H) mg q.1 q.2:=fun q hq=>by
    refine ⟨?_,?_,fun z=>?_⟩
    · obtain ⟨o,us,f1,f2,f3,f4,f5,f6,f7,e1,r1,r2,r3,rest⟩:=tC q hq
      refine ⟨o,us,f1,f2,f3,f4,f5,f6,f7,lay e1 (free e1 (fun xs n z=>?_) fun z=>?_),r1,r2,r3,rest⟩
      · rw [r2] at z;cases z
      · rw [r2] at z;cases z;simp at r3
    · obtain ⟨bm,ob,b1,b2,b3,b4,b5,b6⟩:=bmn
      refine ⟨bm,ob,b1,b2,fun z=>?_,fun z=>?_,lay b3 (free b3 (fun xs n z=>?_) fun z=>?_),b4,b5,b6⟩
      · obtain ⟨o,es,ep,e,hd,_⟩:=hns
        subst z
        have y:=e.symm.trans b3
        cases y
        rw [hd] at b6;cases b6
      · subst z
        have y:=(tE q hq).symm.trans b3
        cases y
        cases b6
      · rw [b6] at z;cases z
      · rw [b6] at z;cases z
    · obtain ⟨o,es,ep,e,hd,_⟩:=hns
      rw [z] at e
      have y:=(tE q hq).symm.trans e
      cases y
      cases hd
  have e0:Env0 P w K mg (hidT s1.heap H) callerA [] s1 H:=by
    refine ⟨rfl,⟨hKb,plain hns,⟨mb,plain hb,hbb⟩,?_⟩,fun b o e=>of_hidT e,Nat.le_of_eq (hidT_size _ _),trivial,fun b z=>absurd (show b∈([]:List Addr) from z) (by simp),hok,.of_eq hg⟩
    obtain ⟨mc,h1,h2⟩:=hlim
    exact ⟨mc,plain h1,h2⟩
  refine codeAny_mono ((F _ hKb (plain hns) TB).run callerA [] s1 H ⟨[.ref a],[]⟩ [.ref a] [.ref a] _ _ hr rfl e0 (hbind s1 (.ref a)) (.cons rfl .nil) (hsp H (fun q hq=>inT _ (List.mem_map.mpr ⟨q,hq,rfl⟩)) hS)) fun r s' h=>?_
  cases r with
  | error e=>
    obtain ⟨_,_,_,_,_,_,_,_,_,_,_,_,z⟩:=h
    exact z.elim
  | ok fl=>
    cases fl with
    | next=>exact False.elim h
    | brk=>exact False.elim h
    | cont=>exact False.elim h
    | ret u=>
      obtain ⟨v,H',os,bare,un,hok',r',q⟩:=h
      obtain rfl:v=.bl true:=q
      obtain rfl:u=Value.bool true:=r'
      have stay:∀ b o,b∉cs.map Prod.snd->s1.heap.get? b=some o->s'.heap.get? b=some o:=fun b o nb e=>by
        cases q:H b with
        | none=>exact un.keep b o e q (fun y=>absurd (show b∈([]:List Addr) from y) (by simp)) (by simp)
        | some u=>
          rcases heap0_cases q with ⟨hm,_⟩ | ⟨_,_,_,rfl⟩
          · exact absurd hm nb
          · obtain ⟨e1,_⟩:=hok b _ q
            obtain ⟨e2,_⟩:=hok' b _ (un.frzs b O _ q)
            rw [e] at e1;cases e1
            exact e2
      have grown:∀ q∈cs,∃ more:Array Value,s'.heap.get? q.2=some { cls:=.none,data:=.fields more }:=fun q hq=>by
        obtain ⟨more,z⟩:=un.tbls q.2 #[] (inT _ (List.mem_map.mpr ⟨q,hq,rfl⟩))
        exact ⟨_,hok' q.2 _ z⟩
      refine ⟨rfl,⟨fun b o e=>?_,fun b o e=>?_⟩,os,bare⟩
      · by_cases hm:b∈cs.map Prod.snd
        · obtain ⟨q,hq,rfl⟩:=List.mem_map.mp hm
          obtain ⟨more,hmo⟩:=grown q hq
          have y:=(tE q hq).symm.trans e
          cases y
          exact .inr (.inl ⟨((tC q hq).tab (tE q hq)).isCodeTable,rfl,#[],more,rfl,by rw [Array.empty_append];exact hmo⟩)
        · exact .inl (stay b o hm e)
      · by_cases hm:b∈cs.map Prod.snd
        · obtain ⟨q,hq,rfl⟩:=List.mem_map.mp hm
          obtain ⟨more,hmo⟩:=grown q hq
          exact ⟨_,hmo⟩
        · exact ⟨o,stay b o hm e⟩
end
def spSource (K:PySem.W.Frag):Sp:=fun vs H Q _=>∃ (a:Addr) (ns:List Int),vs=[.ref a]/\SqL K H a (ns.map V.int)/\ns.length<=63/\
  ∀ (H':Hp) (p c:Addr) (ms:List Int) (sd:Int),Ex H H'->c≠p->H' p=some (.lst [.ref c,.int 0,.int 0,.int sd,.int 0])->H' c=some (.lst (ms.map V.int))->ms.length<=63->0<=sd->sd < 4294967296->Q (.ref p) H'
def spDraw:SpD:=fun args Q _=>∃ m:Int,args=[.src,.d (.int m)]/\0 < m/\m < 2 ^ 64/\∀ n:Int,0<=n->n < m->Q (.d (.int n))
def spOf:SpD:=fun args Q _=>∃ x:DV,args=[.src,x]/\(∀ o,x≠.see o)/\match x with
  | .d (.str z)=>0 < z.length/\z.length<=szl/\∀ c∈z.cps.toList,Q (.d (.str ⟨#[c]⟩))
  | .d (.tup ds)=>0 < ds.length/\ds.length<=szl/\∀ d∈ds,Q (.d d)
  | x=>match x.items with
    | some ds=>0 < ds.length/\ds.length<=szl/\∀ d∈ds,Q (.d d)
    | none=>False
structure Shows (d:D) (p:PyData):Prop where
  py:d.py=some p
  seq:(∃ ds,d=.lst ds)\/∃ ds,d=.tup ds
  sh:SeqAt.shaped p=true
  sw:p.showable=true
  ln:p.shown.length<=szl
def spSame:SpD:=fun args Q _=>∃ (d e:D) (p q:PyData),args=[.d d,.d e]/\Shows d p/\Shows e q/\Q (.d (.bl (decide (p.shown=q.shown))))
theorem agf {Q:DV->Prop} {E:XE'} {d:D} {p:PyData} (h:Shows d p) (q:Q (.d (.bl true))):spSame [.d d,.d d] Q E:=⟨d,d,p,p,rfl,h,h,by rw [decide_eq_true rfl];exact q⟩
theorem ahm {k:Nat} {A:Around} (hr:Room k A):A.units + 65 < cLine:=by have:=hr.un;omega
theorem agk {d:D} {p:PyData} {Q:DV->Prop} (s:Shows d p) (q:Q (.d (.str p.shown))):reprR [.d d] Q:=by
  unfold reprR
  rcases s.seq with ⟨ds,rfl⟩ | ⟨ds,rfl⟩
  · show (match (D.lst ds).py with | some p=>SeqAt.shaped p=true/\p.showable=true/\p.shown.length<=szl/\Q (.d (.str p.shown)) | none=>False)
    rw [s.py]
    exact ⟨s.sh,s.sw,s.ln,q⟩
  · show (match (D.tup ds).py with | some p=>SeqAt.shaped p=true/\p.showable=true/\p.shown.length<=szl/\Q (.d (.str p.shown)) | none=>False)
    rw [s.py]
    exact ⟨s.sh,s.sw,s.ln,q⟩
def LamUq (K:PySem.W.Frag):Prop:=∀ q∈lamFns K,∀ q'∈lamFns K,q.2.1=q'.2.1->q.2.2=q'.2.2
def spLaw (K:PySem.W.Frag):Sp:=fun vs H Q _=>∃ (a:Addr) (ns:List Int),vs=[.ref a]/\SqL K H a (ns.map V.int)/\ns.length<=63/\(∀ q∈lamFns K,H q.2.1=some (.tbl #[]))/\LamUq K/\∀ H',Q (.bl true) H'
abbrev lawEnds:EndsD:={ nx:=fun _=>False,rt:=fun v _=>v=.d (.bl true),bk:=fun _=>False,ct:=fun _=>False,xc:=fun _ _ _=>False }
theorem aij {K:PySem.W.Frag} {W:WX} {t:TDS} {D:Ends} {σ:L2.St} {H:Hp} {p c:Addr} {ms:List Int} {sd:Int} (n i:Nat) (hl:σ.length=n) (hi:σ[i]?=some (some (.ref p))) (hD:∀ H',D.rt (.bl true) H')
    (cp:c≠p) (hp:H p=some (.lst [.ref c,.int 0,.int 0,.int sd,.int 0])) (hc:H c=some (.lst (ms.map V.int))) (hm:ms.length<=63) (h0:0<=sd) (h1:sd < 4294967296) (ht:∀ q∈lamFns K,H q.2.1=some (.tbl #[])) (hu:LamUq K)
    (h:t lawEnds ((List.replicate n none).set i (some .src))):upS K W t D σ H:=by
  have gP:tpUp (fun b=>if b=c then H c else none) H p=none:=by
    unfold tpUp;rw [hp];exact if_neg (Ne.symm cp)
  have gC:tpUp (fun b=>if b=c then H c else none) H c=some (.lst (ms.map V.int)):=by
    unfold tpUp;rw [hc];simp
  refine ⟨tpUp (fun b=>if b=c then H c else none) H,(p,.src c)::(lamFns K).map fun q=>(q.2.1,.tab q.2.2),_,lawEnds,?_,h,⟨fun _ _ _ _ _ z=>z.elim,fun _ _ _ _ _ z=>z.elim,fun _ _ _ _ _ z=>z.elim,fun v H' G' dv _ pr z=>?_,fun _ _ _ _ _ _ _ _ _ z=>z.elim⟩⟩
  · have sl:∀ (j:Nat) (dv:DV),((List.replicate n none).set i (some DV.src))[j]?=some (some dv)->j=i/\dv=.src:=fun j dv e=>by
      rcases get_set e with ⟨z,e2⟩ | ⟨ne,e2⟩
      · exact ⟨z,Option.some.inj e2⟩
      · rw [List.getElem?_replicate] at e2
        split at e2<;>cases e2
    refine ⟨⟨fun b o e=>?_,fun b k e=>?_,⟨fun q hq=>List.mem_cons_of_mem _ (List.mem_map.mpr ⟨q,hq,rfl⟩),fun b k k' e e'=>?_⟩,fun b xs q=>by unfold tpUp;rw [q]⟩,by simp [hl],fun j dv e=>?_,fun j k o o' b e1 _ _ _=>?_,fun j o b e1 _ _=>?_,fun j o e=>?_⟩
    · unfold tpUp at e
      split at e
      · rename_i xs z;cases e;exact z
      · replace e:(if b=c then H c else none)=some o:=e
        by_cases q:b=c
        · subst q;rw [if_pos rfl] at e;exact e
        · rw [if_neg q] at e;cases e
    · rcases List.mem_cons.mp e with e | e
      · cases e
        exact ⟨gP,ms,0,0,sd,0,hp,SqL.of gC,hm,by omega,by omega,h0,h1⟩
      · obtain ⟨q,hq,e⟩:=List.mem_map.mp e
        cases e
        have hne:q.2.1≠c:=fun z=>by
          have y:=ht q hq
          rw [z,hc] at y;cases y
        exact ⟨by unfold tpUp;rw [ht q hq];exact if_neg hne,#[],ht q hq,True.intro,fun pos cv hcv=>(by have z:codeAmong pos []=some cv:=hcv;simp [codeAmong] at z)⟩
    · have np:∀ q∈lamFns K,q.2.1≠p:=fun q hq z=>by
        have y:=ht q hq
        rw [z,hp] at y;cases y
      rcases List.mem_cons.mp e with e | e<;>rcases List.mem_cons.mp e' with e' | e'
      · cases e;cases e';rfl
      · obtain ⟨q,hq,e'⟩:=List.mem_map.mp e'
        cases e;cases e'
        exact absurd rfl (np q hq)
      · obtain ⟨q,hq,e⟩:=List.mem_map.mp e
        cases e;cases e'
        exact absurd rfl (np q hq)
      · obtain ⟨q,hq,e⟩:=List.mem_map.mp e
        obtain ⟨q',hq',e'⟩:=List.mem_map.mp e'
        cases e
        injection e' with e1 e2
        rw [<- e2,hu q hq q' hq' e1.symm]
    · obtain ⟨rfl,rfl⟩:=sl j dv e
      exact ⟨_,hi,p,⟨c,List.mem_cons_self ..⟩,rfl⟩
    · exact (nomatch (sl j _ e1).2)
    · exact (nomatch (sl j _ e1).2)
    · exact (nomatch (sl j _ e).2)
  · have w:=pr.val
    rw [z] at w
    cases w
    exact hD H'
theorem af1 {K:PySem.W.Frag} {x qual:Str} {params:Arguments} {body:List Stmt} {scope:Scope} {kws:List (Str × V)} {f:Addr} {fd:FuncData} {ps ks:List Str} {n:Nat} {sel:List Sel} (F:FunD K x qual params body scope [] kws f fd) (g:List Value->List Value->List Value)
    (h:∀ (kV doc pm:Value) (an:Option Addr) (cdv ct:Value) (us ws:List Value),us.length=n->ws.length=ks.length->bindArgs (PySem.W.fnOf x qual params body scope .none kV doc pm an cdv ct) ⟨us,ks.zip ws⟩=pure (ps.zip (g us ws)))
    (hv:∀ (vs qs:List V) (us ws:List Value),us.length=n->ws.length=ks.length->Vals vs us->Vals qs ws->Vals (sel.map (pickV vs qs)) (g us ws)) (hs:∀ s∈sel,∀ (v:V) (d:D),s=.dfl v d->∀ G,DOk K G v d):Bd K fd ps n ks sel:=by
  obtain ⟨oc,od,dV,kV,doc,pm,an,cdv,ct,osl,rfl,lk,hcd,hD,hK⟩:=F.ex
  rcases hD with ⟨_,rfl⟩ | ⟨e,_⟩
  · exact ⟨fun s us ws vs qs _ l1 l2 r1 r2=>⟨g us ws,.of_eq (h kV doc pm an cdv ct us ws l1 l2),hv vs qs us ws l1 l2 r1 r2⟩,hs⟩
  · exact absurd rfl e
section
variable {Q:DV->Prop} {i j:Int} {a b z:Str} {ds es:List D} {d e:D} {v w:DV}
theorem agB (hv:v.items=some ds) (hw:w.items=some es) (h:ds.length + es.length<=szl) (q:Q (.own (.lst (ds++es)))):addR v w Q:=by
  unfold addR
  split
  · cases hv
  · cases hv
  · cases hv
  · rw [hv,hw];exact ⟨h,q⟩
theorem ain {C:Int->Int->Prop} {f:Int->Int->D} (h:C i j) (q:Q (.d (f i j))):intR C f (.d (.int i)) (.d (.int j)) Q:=by unfold intR;exact ⟨h,q⟩
theorem l_neg (q:Q (.d (.int (-i)))):negR (.d (.int i)) Q:=by unfold negR;exact q
theorem l_eqI {n:Bool} (q:Q (.d (.bl (if n then !decide (i=j) else decide (i=j))))):eqR n (.d (.int i)) (.d (.int j)) Q:=by unfold eqR;exact q
theorem af0 {n:Bool} (q:Q (.d (.bl (if n then !decide (a=b) else decide (a=b))))):eqR n (.d (.str a)) (.d (.str b)) Q:=by unfold eqR;exact q
theorem aik {P:Bool->Prop} {x:Bool} (q:P x):truR (.d (.bl x)) P:=by unfold truR;exact q
theorem abE {xs:List DV} (h:dats xs=some ds) (hl:Nat.ble ds.length szl=true) (q:Q (.d (.tup ds))):tupR xs Q:=by
  unfold tupR;rw [h];exact ⟨Nat.le_of_ble_eq_true hl,q⟩
theorem adh {xs:List DV} (h:dats xs=some ds) (hl:Nat.ble ds.length szl=true) (q:Q (.own (.lst ds))):lstR xs Q:=by
  unfold lstR;rw [h];exact ⟨Nat.le_of_ble_eq_true hl,q⟩
theorem aep {P:List D->Prop} (q:P ds):iterR (.d (.lst ds)) P:=by unfold iterR;exact q
theorem ahr {P:List D->Prop} (h1:-(2 ^ 62)<=j) (h2:j < 2 ^ 62) (q:P (intsFrom 0 j.toNat)):ag3 [.d (.int j)] P:=by unfold ag3;exact ⟨h1,h2,q⟩
theorem aim (h:z.length<=szl) (q:Q (.d (.int z.length))):lenR [.d (.str z)] Q:=by unfold lenR;exact ⟨h,q⟩
theorem ail (q:Q (.d (.int ds.length))):lenR [.d (.tup ds)] Q:=by unfold lenR;exact q
theorem agz (hv:v.items=some ds) (q:Q (.d (.int ds.length))):lenR [v] Q:=by
  unfold lenR
  split
  · rename_i h;cases h;cases hv
  · rename_i h;cases h;cases hv
  · rename_i h;cases h;rw [hv];exact q
  · rename_i h;exact absurd rfl (h v)
theorem agA {n:Bool} (h1:flatD d=true) (h2:ds.all flatD=true) (q:Q (.d (.bl (if n then !inF d ds else inF d ds)))):inR n (.d d) (.d (.tup ds)) Q:=by
  unfold inR
  split
  · rename_i h;cases h
  · unfold inSeqR;exact ⟨h1,h2,q⟩
theorem items_cases (h:v.items=some ds):v=.d (.lst ds)\/v=.own (.lst ds)\/v=.bor (.lst ds)\/v=.see (.lst ds):=by
  unfold DV.items at h
  split at h<;>first | (cases h;done) | (injection h with h;subst h;simp)
theorem l_inL {n:Bool} (hv:v.items=some ds) (h1:flatD d=true) (h2:ds.all flatD=true) (q:Q (.d (.bl (if n then !inF d ds else inF d ds)))):inR n (.d d) v Q:=by
  rcases items_cases hv with e | e | e | e<;>subst e<;>(unfold inR;unfold inSeqR;cases d<;>exact ⟨h1,h2,q⟩)
theorem l_ixT (h:atI ds i=some d) (q:Q (.d d)):ixR (.d (.tup ds)) (.d (.int i)) Q:=by
  unfold ixR
  dsimp only
  rw [h];exact q
theorem l_ixS {c:Nat} (hz:z.length<=szl) (h:atI z.cps.toList i=some c) (q:Q (.d (.str ⟨#[c]⟩))):ixR (.d (.str z)) (.d (.int i)) Q:=by
  unfold ixR
  refine ⟨hz,?_⟩
  rw [h];exact q
theorem ahV (hv:v.items=some ds) (h:atI ds i=some d) (q:Q (.d d)):ixR v (.d (.int i)) Q:=by
  rcases items_cases hv with e | e | e | e<;>subst e<;>(unfold ixR;dsimp only [DV.items];rw [h];exact q)
end
section
variable {g:TDG} {tt:TDT} {te:TD} {vs:List Nat} {Q:DV->DSt->Prop}
theorem agx (p:D->Bool) (f:D->D) (S:DSt):∀ (ds acc:List D),acc.length + ds.length<=szl->
    (∀ d∈ds,∀ (M:D->DSt->Prop) (A:DSt->Prop),(p d=true->M (f d) S)->(p d=false->A S)->g d S fun s1=>tt s1 (fun b s2=>Br b (te s2 (fun x s3=>match pubV x with
      | .d y=>M y (wipeD s3 vs)
      | _=>False) fun _ _ _=>False) (A (wipeD s2 vs))) fun _ _ _=>False)->
    Q (.own (.lst (acc++(ds.filter p).map f))) S->dLcL g tt te vs Q ds acc S
  | [],acc,_,_,q=>by rw [afw];rw [List.filter_nil,List.map_nil,List.append_nil] at q;exact q
  | d::r,acc,hl,step,q=>by
    rw [afd]
    have hl2:acc.length + (r.length + 1)<=szl:=hl
    refine step d (List.mem_cons_self ..) (fun y s=>acc.length < szl/\dLcL g tt te vs Q r (acc++[y]) s) (fun s=>dLcL g tt te vs Q r acc s) (fun e=>⟨by omega,?_⟩) (fun e=>?_)
    · refine agx p f S r _ (by rw [List.length_append,List.length_singleton];omega) (fun d' h=>step d' (List.mem_cons_of_mem _ h)) ?_
      rw [List.filter_cons_of_pos e,List.map_cons] at q
      rw [List.append_assoc,List.singleton_append];exact q
    · refine agx p f S r _ (by omega) (fun d' h=>step d' (List.mem_cons_of_mem _ h)) ?_
      rw [List.filter_cons_of_neg (by simp [e])] at q
      exact q
theorem ahT (f:D->D) (S:DSt) {ds:List D} (hl:ds.length<=szl)
    (step:∀ d∈ds,∀ (M:D->DSt->Prop) (A:DSt->Prop),M (f d) S->g d S fun s1=>tt s1 (fun b s2=>Br b (te s2 (fun x s3=>match pubV x with
      | .d y=>M y (wipeD s3 vs)
      | _=>False) fun _ _ _=>False) (A (wipeD s2 vs))) fun _ _ _=>False) (q:Q (.own (.lst (ds.map f))) S):dLcL g tt te vs Q ds [] S:=
  agx (fun _=>true) f S ds [] (by simpa using hl) (fun d h M A m _=>step d h M A (m rfl)) (by rw [List.filter_eq_self.mpr (fun _ _=>rfl)];exact q)
end
theorem up_ss {X:Cx} (W:WX) {sts:List Stmt} {t:TDS} (h:DSs X W sts t):PSs X sts (upS X.K W t):=h
theorem ahh {K:PySem.W.Frag} {x qual:Str} {params:Arguments} {body:List Stmt} {scope:Scope} {kws:List (Str × V)} {f:Addr} {fd:FuncData} {ps:List Str} (F:FunD K x qual params body scope [] kws f fd)
    (h:∀ (kV doc pm:Value) (an:Option Addr) (cdv ct:Value) (us:List Value),us.length=ps.length->bindArgs (PySem.W.fnOf x qual params body scope .none kV doc pm an cdv ct) ⟨us,[]⟩=pure (ps.zip us)):Binds K fd ps []:=by
  obtain ⟨oc,od,dV,kV,doc,pm,an,cdv,ct,osl,rfl,lk,hcd,hD,hK⟩:=F.ex
  rcases hD with ⟨_,rfl⟩ | ⟨e,_⟩
  · exact Binds.all fun us hl=>h kV doc pm an cdv ct us hl
  · exact absurd rfl e
theorem agN {K:PySem.W.Frag} {x qual p:Str} {params:Arguments} {body:List Stmt} {scope:Scope} {kws:List (Str × V)} {f:Addr} {fd:FuncData} (F:FunD K x qual params body scope [] kws f fd)
    (h:∀ (kV doc pm:Value) (an:Option Addr) (cdv ct:Value) (u:Value),bindArgs (PySem.W.fnOf x qual params body scope .none kV doc pm an cdv ct) ⟨[u],[]⟩=pure [(p,u)]) (s:Shared) (u:Value):BindsTo s fd ⟨[u],[]⟩ [(p,u)]:=by
  obtain ⟨oc,od,dV,kV,doc,pm,an,cdv,ct,osl,rfl,lk,hcd,hD,hK⟩:=F.ex
  rcases hD with ⟨_,rfl⟩ | ⟨e,_⟩
  · exact .of_eq (h kV doc pm an cdv ct u)
  · exact absurd rfl e
abbrev wd (cs:List Nat):Str:=⟨cs.toArray⟩
section
variable {t u:TDS} {te:TD} {E:EndsD} {sl:DSt} {i:Nat}
theorem ae8 (ds:List D) (h:∀ Q:DV->DSt->Prop,Q (.own (.lst ds)) sl->te sl Q E.xc) (q:u E (sl.set i (some (.own (.lst ds))))):dSeq (dSet te i) u E sl:=h _ q
theorem agY (R:D->Prop) (h:∀ Q:DV->DSt->Prop,(∀ x,R x->Q (.d x) sl)->te sl Q E.xc) (q:∀ x,R x->u E (sl.set i (some (.d x)))):dSeq (dSet te i) u E sl:=h _ q
end
theorem aem (L:Nat):∀ (ts:List Str) (k:Nat) (acc:Str),(∀ t∈ts,t.length<=L)->(PySem.textFrom k acc ts).length<=acc.length + ts.length * (L + 2)
  | [],k,acc,_=>by show acc.length<=_;omega
  | t::r,k,acc,h=>by
    have h1:=aem L r (k + 1) (acc++(if k > 0 then ", " else "":String)++t) fun y hy=>h y (List.mem_cons_of_mem _ hy)
    have h2:=h t (List.mem_cons_self ..)
    have e:(acc++(if k > 0 then ", " else "":String)++t).length=acc.length + (if k > 0 then 2 else 0) + t.length:=by
      rw [strLen_append,strLen_append]
      split<;>rfl
    rw [e] at h1
    show (PySem.textFrom (k + 1) (acc++(if k > 0 then ", " else "":String)++t) r).length<=_
    rw [List.length_cons,Nat.add_mul]
    have h3:(if k > 0 then 2 else 0)<=2:=by split<;>omega
    omega
theorem agD (L:Nat):∀ ts:List Str,(∀ t∈ts,t.length<=L)->(Str.join ", " ts).length<=ts.length * (L + 2)
  | [],_=>by show 0<=_;omega
  | [x],h=>by have:=h x (List.mem_cons_self ..);show x.length<=1 * (L + 2);omega
  | x::y::r,h=>by
    have h1:=agD L (y::r) fun t ht=>h t (List.mem_cons_of_mem _ ht)
    have h2:=h x (List.mem_cons_self ..)
    show (x++", "++Str.join ", " (y::r)).length<=(r.length + 1 + 1) * (L + 2)
    rw [strLen_append,strLen_append]
    have e2:((", ":String):Str).length=2:=rfl
    rw [List.length_cons] at h1
    rw [Nat.add_mul (r.length + 1)]
    omega
structure Shw (n L:Nat) (d:D) (p:PyData):Prop where
  py:d.py=some p
  lay:p.canLay0=true
  dp:p.depth<=n
  sw:p.showable=true
  ln:p.shown.length<=L
inductive ShwAll (n L:Nat):List D->List PyData->Prop where
  | nil:ShwAll n L [] []
  | cons {d:D} {p:PyData} {ds:List D} {ps:List PyData} (h:Shw n L d p) (t:ShwAll n L ds ps):ShwAll n L (d::ds) (p::ps)
namespace Shw
variable {n m L M:Nat} {d:D} {p:PyData}
theorem mono (h:Shw n L d p) (h1:n<=m) (h2:L<=M):Shw m M d p:=⟨h.py,h.lay,Nat.le_trans h.dp h1,h.sw,Nat.le_trans h.ln h2⟩
theorem non:Shw 0 4 .non .none:=⟨rfl,by simp [PyData.canLay0],by simp [PyData.depth],by simp [PyData.showable],by simp [PyData.shown];decide⟩
theorem bl (b:Bool):Shw 0 5 (.bl b) (.bool b):=⟨rfl,by simp [PyData.canLay0],by simp [PyData.depth],by simp [PyData.showable],by cases b<;>simp [PyData.shown]<;>decide⟩
theorem str {z:Str} (h:∀ c∈z.cps.toList,c < 0x110000) (hl:z.length<=m):Shw 0 (10 * m + 2) (.str z) (.str z):=by
  refine ⟨rfl,?_,by simp [PyData.depth],by simp [PyData.showable],?_⟩
  · simp only [PyData.canLay0,PyData.strOk]
    rw [Array.all_eq_true']
    intro c hc
    exact decide_eq_true (h c (Array.mem_def.mp hc))
  · have:=PySem.StrLaws.reprText_len z fun c hc=>Nat.lt_trans (h c hc) (by decide)
    simp only [PyData.shown]
    omega
theorem int {i:Int} {k:Nat} (hk:0 < k) (h2:k<=500) (h0:0<=i) (h:i < 10 ^ k):Shw 0 k (.int i) (.int i):=by
  refine ⟨rfl,by simp [PyData.canLay0],by simp [PyData.depth],?_,?_⟩
  · simp only [PyData.showable]
    refine decide_eq_true ?_
    rcases Nat.eq_zero_or_pos i.natAbs with z | z
    · rw [z];decide
    refine (Nat.log2_lt (by omega)).mpr ?_
    have h3:i.natAbs < 10 ^ k:=by
      have:((i.natAbs:Nat):Int) < ((10 ^ k:Nat):Int):=by rw [Int.natAbs_of_nonneg h0];simpa using h
      exact Int.ofNat_lt.mp this
    refine Nat.lt_of_lt_of_le h3 (Nat.le_trans (Nat.pow_le_pow_right (by decide) h2) ?_)
    decide +kernel
  · simp only [PyData.shown]
    exact toString_length_le h0 hk h
theorem all:∀ {ds:List D} {ps:List PyData},ShwAll n L ds ps->D.pyAll ds=some ps/\PyData.canLayAll0 ps=true/\PyData.depthAll ps<=n/\PyData.showableAll ps=true/\(∀ t∈PyData.shownAll ps,t.length<=L)/\(PyData.shownAll ps).length=ds.length
  | _,_,.nil=>⟨by simp [D.pyAll],by simp [PyData.canLayAll0],by simp [PyData.depthAll],by simp [PyData.showableAll],by simp [PyData.shownAll],by simp [PyData.shownAll]⟩
  | _,_,.cons (d:=d) (p:=p) (ds:=ds) (ps:=ps) h t=>by
    obtain ⟨h1,h2,h3,h4,h5,h6⟩:=all t
    refine ⟨?_,?_,?_,?_,?_,?_⟩
    · unfold D.pyAll;rw [h.py,h1]
    · unfold PyData.canLayAll0;rw [h.lay,h2];rfl
    · unfold PyData.depthAll;exact Nat.max_le.mpr ⟨h.dp,h3⟩
    · unfold PyData.showableAll;rw [h.sw,h4];rfl
    · unfold PyData.shownAll
      intro t ht
      rcases List.mem_cons.mp ht with z | z
      · rw [z];exact h.ln
      · exact h5 t z
    · unfold PyData.shownAll;rw [List.length_cons,List.length_cons,h6]
theorem lst {ds:List D} {ps:List PyData} (h:ShwAll n L ds ps) (hl:ds.length<=m):Shw (n + 1) (m * (L + 2) + 2) (.lst ds) (.list ps):=by
  obtain ⟨h1,h2,h3,h4,h5,h6⟩:=all h
  refine ⟨by unfold D.py;rw [h1];rfl,by unfold PyData.canLay0;exact h2,by unfold PyData.depth;omega,by unfold PyData.showable;exact h4,?_⟩
  unfold PyData.shown listText
  rw [strLen_append]
  have:=aem L (PyData.shownAll ps) 0 "[" h5
  have e1:(("[":String):Str).length=1:=rfl
  have e2:(("]":String):Str).length=1:=rfl
  rw [h6] at this
  have:=Nat.mul_le_mul_right (L + 2) hl
  omega
theorem tup {ds:List D} {ps:List PyData} (h:ShwAll n L ds ps) (hl:ds.length<=m):Shw (n + 1) (m * (L + 2) + 3) (.tup ds) (.tuple ps):=by
  obtain ⟨h1,h2,h3,h4,h5,h6⟩:=all h
  refine ⟨by unfold D.py;rw [h1];rfl,by unfold PyData.canLay0;exact h2,by unfold PyData.depth;omega,by unfold PyData.showable;exact h4,?_⟩
  unfold PyData.shown tupleText
  rw [strLen_append,strLen_append]
  have e1:(("(":String):Str).length=1:=rfl
  have e2:((if (PyData.shownAll ps).length == 1 then ",)" else ")":String):Str).length<=2:=by split<;>decide
  have e3:(Str.join ", " (PyData.shownAll ps)).length<=m * (L + 2):=by
    have j:=agD L (PyData.shownAll ps) h5
    rw [h6] at j
    exact Nat.le_trans j (Nat.mul_le_mul_right _ hl)
  omega
end Shw
theorem Shw.shows {n L:Nat} {d:D} {p:PyData} (h:Shw n L d p) (hs:(∃ ds,d=.lst ds)\/∃ ds,d=.tup ds) (h1:n<=64) (h2:L<=szl):Shows d p:=⟨h.py,hs,by simp [SeqAt.shaped,h.lay,Nat.le_trans h.dp h1],h.sw,Nat.le_trans h.ln h2⟩
end DL
namespace DL
open PySem PySem.Spec PyProof.Rows L2
mutual
def datB (K:PySem.W.Frag):D->Value->Bool
  | .non,u=>(match u with | .none=>true | _=>false)
  | .bl b,u=>(match u with | .bool c=>b == c | _=>false)
  | .int i,u=>(match u with | .int j _=>decide (i=j) | _=>false)
  | .str x,u=>(match u with | .str y _=>decide (x=y) | _=>false)
  | .tup ds,u=>(match u with
    | .ref a=>(match K.lookup a with
      | some ⟨.type c,_,.seq its _,_⟩=>decide (c="tuple") && (decide (its.size<=sizeLine) && datsB K ds its.toList)
      | _=>false)
    | _=>false)
  | _,_=>false
def datsB (K:PySem.W.Frag):List D->List Value->Bool
  | [],us=>us.isEmpty
  | d::ds,us=>(match us with
    | u::r=>datB K d u && datsB K ds r
    | []=>false)
end
def gloB (K:PySem.W.Frag) (q:Str × D):Bool:=match PySem.W.nsIn K mainGlobals q.1 with
  | some (some u)=>datB K q.2 u
  | _=>false
def bltB (K:PySem.W.Frag) (q:Str × String):Bool:=He.eqO (PySem.W.nsIn K mainGlobals q.1) (some (some (.builtin q.2)))
abbrev AlX:Type:=Bool × He.AlD
structure LX where
  cs:List (Str × D)
  bs:List (Str × String)
  xs:List (PySem.W.Frag->Bool)
def lamOk (g:Addr->Option Obj) (K:PySem.W.Frag):Bool:=(lamFns K).all fun q=>PySem.W.codeHdIn K q.1 q.2.1 && ((match g q.2.1 with
  | some o=>He.emptyTab o
  | none=>false) && (lamFns K).all fun q'=>q.2.1 != q'.2.1 || q.2.2 == q'.2.2)
def LX.ok (l:LX) (g:Addr->Option Obj) (K:PySem.W.Frag):Bool:=(l.cs.all (gloB K) && (l.bs.all (bltB K) && l.xs.all fun x=>x K)) && lamOk g K
def valX (fn:List He.DefD):AlX:=(true,He.valD fn)
structure SaysX (l:LX) (fa:List He.Fa) (fn:List He.DefD) (h:Heap) (K:PySem.W.Frag):Prop where
  c:(l.cs.all (gloB K) && (l.bs.all (bltB K) && l.xs.all fun x=>x K))=true
  s:He.SaysD fa fn K
  tc:∀ q∈lamFns K,PySem.W.codeHdIn K q.1 q.2.1=true
  tn:∀ q∈lamFns K,K.lookup q.2.1=none
  te:∀ q∈lamFns K,h.get? q.2.1=some { cls:=.none,data:=.fields #[] }
  tu:LamUq K
section
variable {l:LX} {fa:List He.Fa} {fn:List He.DefD} {h h0:Heap} {K:PySem.W.Frag} {mg:Str->Option Value}
end
theorem ahU {K:PySem.W.Frag} {x qual:Str} {params:Arguments} {body:List Stmt} {scope:Scope} {dvs:List V} {kws:List (Str × V)} {f:Addr} {fd:FuncData} (F:FunD K x qual params body scope dvs kws f fd) (h:lamNames.contains qual=true):∃ c,fd.code=.ref c/\(c,He.tabOf K c,qual++".<locals>."++"<lambda>")∈lamFns K:=by
  obtain ⟨oc,od,dV,kV,doc,pm,an,cdv,ct,osl,rfl,lk,hcd,_,_⟩:=F.ex
  obtain ⟨c,rfl⟩:=He.codeIn_ref hcd
  refine ⟨c,rfl,List.mem_filterMap.mpr ⟨_,He.lookup_mem lk,?_⟩⟩
  show (if lamNames.contains qual=true then some (c,He.tabOf K c,qual++".<locals>."++"<lambda>") else none)=_
  rw [if_pos h]
theorem agO {l:PySem.W.OpenLaw} {n k:Nat} {q:Program} {loose:List Str} {XP:(Str->Option Value)->Heap->Prop} {YP:World->Heap->Prop} {d:DefRec} {x:Str}
    (hn:l.most=some n) (hn2:n<=sizeLine) (hdf:d.params.defaults=[]) (hr:Room k callerA)
    (F:∀ (w:World) (mg:Str->Option Value) (fa:Addr) (h:Heap),YP w h->h.Ns mainGlobals mg->mg d.name=some (.ref fa)->
      ∃ (K:PySem.W.Frag) (fd:FuncData) (sp:Sp),K.In h/\(∀ (s:Shared) (u:Value),BindsTo s fd ⟨[u],[]⟩ [(x,u)])/\
        (∀ q∈lamFns K,h.get? q.2.1=some { cls:=.none,data:=.fields #[] })/\(∀ q∈lamFns K,K.lookup q.2.1=none)/\(∀ q∈lamFns K,PySem.W.codeHdIn K q.1 q.2.1=true)/\
        (∀ (H:Hp) (a:Addr) (ns:List Int),ns.length<=n->(∀ q∈lamFns K,H q.2.1=some (.tbl #[]))->SqL K H a (ns.map V.int)->sp [.ref a] H (fun v _=>v=.bl true) fun _ _ _=>False)/\
        ∀ base:Heap,K.In base->base.Ns mainGlobals mg->(∀ q∈lamFns K,LamX.TabB base mg q.1 q.2.1)->FnR l.prog w K mg base k fa fd [x] sp) :
    PySem.W.WalkO q loose XP YP l.row.toRowW d [] (fun f vs=>PySem.call f vs):=by
  refine Att.attach_call hn hdf fun w s0 s1 mg mb fa o pm cd doc a vs ns G Y ho hd hcd hmg hobj hints hlen hg=>?_
  obtain ⟨K,fd,sp,KX,hb,t1,t2,t3,hsp,hF⟩:=F w mg fa _ Y G.T.g hmg
  have im:∀ {p:Addr × Addr},p∈(lamFns K).map (fun q=>(q.1,q.2.1))->∃ q∈lamFns K,p=(q.1,q.2.1):=fun h=>by
    obtain ⟨q,hq,e⟩:=List.mem_map.mp h
    exact ⟨q,hq,e.symm⟩
  have mi:∀ q∈lamFns K,(q.1,q.2.1)∈(lamFns K).map (fun q=>(q.1,q.2.1)):=fun q hq=>List.mem_map.mpr ⟨q,hq,rfl⟩
  refine agy (cs:=(lamFns K).map fun q=>(q.1,q.2.1)) KX G.T.g G.T.b G.T.builtins G.T.nolimit hg (fun p hp=>?_) (fun p hp=>?_) (fun p hp=>?_) G.T.bmain hobj hints (Nat.le_trans hlen hn2) hr (fun base h1 h2 h3=>hF base h1 h2 fun q hq=>h3 _ (mi q hq)) hb fun H hT hS=>hsp H a ns hlen (fun q hq=>hT _ (mi q hq)) hS
  · obtain ⟨q,hq,rfl⟩:=im hp;exact t1 q hq
  · obtain ⟨q,hq,rfl⟩:=im hp;exact t2 q hq
  · obtain ⟨q,hq,rfl⟩:=im hp;exact PySem.W.codeHd_of_K KX (t3 q hq)
section
variable {K:PySem.W.Frag} {G H:Hp} {so:So} {σ:L2.St} {sl:DSt} {i:Nat} {o o':OO} {a:Addr} {u:HO}
theorem ag6 {K:PySem.W.Frag} {G H:Hp} {a:Addr} {xs:List V} {o:OO} (w:OwnOk K G (upd H a (.tup xs)) a o):False:=by
  cases o with
  | lst ds=>obtain ⟨vs,e,_⟩:=w;rw [upd_same] at e;cases e
  | ins x C fs=>obtain ⟨_,dx,vs,e,_⟩:=w;rw [upd_same] at e;cases e
  | dk kvs=>obtain ⟨vs,e,_⟩:=w;rw [upd_same] at e;cases e
  | dt kvs=>obtain ⟨vs,e,_⟩:=w;rw [upd_same] at e;cases e
theorem PostS.mut (r:Rep K G so σ H sl) (e1:sl[i]?=some (some (.own o))) (e2:σ[i]?=some (some (.ref a))) (w:OwnOk K G (upd H a u) a o'):PostS K G so σ H sl σ (upd H a u) G (sl.set i (some (.own o'))):=by
  have ow:Own sl σ a:=⟨i,o,e1,e2⟩
  obtain ⟨na,ga,sa⟩:=r.nown ow
  have li:i < sl.length:=(List.getElem?_eq_some_iff.mp e1).1
  have ba:∀ b,Own (sl.set i (some (.own o'))) σ b->Own sl σ b:=fun b ⟨j,o2,f1,f2⟩=>by
    rcases get_set f1 with ⟨rfl,f3⟩ | ⟨nj,f3⟩
    · exact ⟨j,o,e1,f2⟩
    · exact ⟨j,o2,f3,f2⟩
  have gn:∀ b q,G b=some q->b≠a:=fun b q h z=>by subst z;rw [ga] at h;cases h
  refine ⟨Ex.refl G,⟨⟨fun b q h=>by rw [upd_ne (gn b q h)];exact r.h.ex b q h,fun b k e=>(r.h.vol b k e).keep (Ex.refl G) (r.h.vol b k e).g (upd_ne fun z=>sa (by rw [<- z];exact ⟨k,e⟩)),r.h.ok,afE r.h.tp (fun xs z=>by subst z;exact ag6 w)⟩,by rw [List.length_set];exact r.len,fun j dv f=>?_,fun j k p p' b f1 f2 g1 g2=>?_,fun j p b f1 f2 z=>?_,fun j p f=>?_⟩,
    fun b q h s n=>by rw [upd_ne (fun z=>n (by rw [z];exact ow))];exact h,fun _ _ g _ _=>g,fun b _ _ n z=>n (ba b z),rfl⟩
  · rcases get_set f with ⟨rfl,f3⟩ | ⟨nj,f3⟩
    · cases f3
      exact ⟨_,e2,a,rfl,ga,sa,w⟩
    · obtain ⟨v,f4,f5⟩:=r.slots j dv f3
      refine ⟨v,f4,?_⟩
      cases dv with
      | d x=>exact f5
      | src=>exact f5
      | own p=>
        obtain ⟨b,rfl,gb,sb,ok⟩:=f5
        have nb:b≠a:=fun z=>nj (r.sep j i p o b f3 e1 f4 (by rw [z];exact e2))
        exact ⟨b,rfl,gb,sb,ok.keep (Ex.refl G) (upd_ne nb)⟩
      | bor p=>
        obtain ⟨b,rfl,sb,ok⟩:=f5
        have nb:b≠a:=fun z=>r.bor j p b f3 f4 (by rw [z];exact ow)
        exact ⟨b,rfl,sb,ok.keep (Ex.refl G) (upd_ne nb)⟩
      | see p=>exact absurd f3 (r.nse j p)
      | mu y D gs=>exact SlOk.muU f5 (Ex.refl _) sa
      | gh _ _=>exact SlOk.ghU f5 (Ex.refl _) sa
  · have h1:∃ q,sl[j]?=some (some (.own q)):=by
      rcases get_set f1 with ⟨rfl,_⟩ | ⟨_,z⟩
      · exact ⟨_,e1⟩
      · exact ⟨_,z⟩
    have h2:∃ q,sl[k]?=some (some (.own q)):=by
      rcases get_set f2 with ⟨rfl,_⟩ | ⟨_,z⟩
      · exact ⟨_,e1⟩
      · exact ⟨_,z⟩
    obtain ⟨q1,h1⟩:=h1
    obtain ⟨q2,h2⟩:=h2
    exact r.sep j k q1 q2 b h1 h2 g1 g2
  · rcases get_set f1 with ⟨_,f3⟩ | ⟨_,f3⟩
    · cases f3
    · exact r.bor j p b f3 f2 (ba b z)
  · rcases get_set f with ⟨_,f3⟩ | ⟨_,f3⟩
    · cases f3
    · exact r.nse j p f3
end
theorem FAll.length {K:PySem.W.Frag} {G:Hp}:∀ {vs:List (Str × V)} {fs:List (Str × D)},FAll K G vs fs->vs.length=fs.length
  | _,_,.nil=>rfl
  | _,_,.cons _ t=>congrArg (· + 1) t.length
section
variable {K:PySem.W.Frag} {G H:Hp} {so:So} {v:V} {dv:DV} {C:Addr} {fs:List (Str × D)}
end
section
variable {X:Cx} {W:WX} {e o value:Expr} {f:Str} {pos pos':Pos} {te:TD} {i:Nat}
end
abbrev SpI:=List DV->(List (Str × D)->Prop)->XE'->Prop
section
variable {X:Cx} {W:WX} {k n:Nat} {f C:Addr} {fd:FuncData} {ps ks:List Str} {sp:SpI} {sel:List Sel} {x nm:Str} {p pos kpos:Pos} {e:Expr} {es:List Expr} {kws:List Keyword} {ta tk tk':TDA} {te:TD}
end
section
variable {X:Cx} {W:WX} {k n:Nat} {f C:Addr} {fd:FuncData} {ps ks:List Str} {sp:SpD} {sel:List Sel} {m nm:Str} {p pos apos kpos:Pos} {o e:Expr} {es:List Expr} {kws:List Keyword} {ta tk tk':TDA} {to te:TD} {pl:Sem Bool}
end
section
variable {X:Cx} {K:PySem.W.Frag} {W:WX} {a b:Expr} {ta tb:TD} {pos:Pos}
def rMulU:R2:=fun x y H Q=>(rI CMulW fun i j=>.int (i * j)) x y H Q\/rRep x y H Q
theorem ahR:OpR X (binaryOp .Mult) rMulU:=fun pins s σ H x y v u Q I rx ry h=>h.elim (fun h=>op_mulW pins s σ H x y v u Q I rx ry h) fun h=>op_rep pins s σ H x y v u Q I rx ry h
theorem DAll.rep {K:PySem.W.Frag} {G:Hp} {vs:List V} {ds:List D} (h:DAll K G vs ds):∀ n:Nat,DAll K G (List.replicate n vs).flatten (List.replicate n ds).flatten
  | 0=>.nil
  | n + 1=>by rw [List.replicate_succ,List.replicate_succ,List.flatten_cons,List.flatten_cons];exact h.append (h.rep n)
theorem ahJ:OpSem K rMulU mulR:=by
  intro G so H x y dx dy Q R h w1 w2 q k
  unfold mulR at q
  split at q
  · cases w1;cases w2
    exact .inl ⟨_,_,rfl,rfl,q.1,k _ H G _ (.dat h (.int _)) q.2⟩
  · rename_i c _
    cases w2
    split at q
    · rename_i ds e
      obtain ⟨l,vs,rfl,h1,h2⟩:=w1.list h e
      obtain ⟨q1,q2,q3,q4⟩:=q
      exact .inr ⟨l,c,vs,rfl,rfl,h1,q1,q2,by rw [h2.length];exact q3,fun p np=>k _ _ G _ (.list h np (h2.rep _)) q4⟩
    · exact q.elim
  · exact q.elim
theorem ahz (ha:DE X W a ta) (hb:DE X W b tb):DE X W (.BinOp a .Mult b pos) (dOp mulR ta tb):=ah4 ahR ahJ ha hb
end
theorem ahs {Q:DV->Prop} {v:DV} {ds:List D} {k:Int} (hv:v.items=some ds) (h1:-(2 ^ 63)<=k) (h2:k < 2 ^ 63) (h3:ds.length * k.toNat<=szl) (q:Q (.own (.lst (List.replicate k.toNat ds).flatten))):mulR v (.d (.int k)) Q:=by
  rcases items_cases hv with e | e | e | e<;>subst e<;>(unfold mulR;dsimp only [DV.items];exact ⟨h1,h2,h3,q⟩)
section
variable {X:Cx} {K:PySem.W.Frag}
end
def dPar (i j:Nat) (ta:TDA):TDS:=fun E sl=>ta sl (fun vs s1=>match vs with
  | [.d x,.d y]=>E.nx ((s1.set i (some (.d x))).set j (some (.d y)))
  | _=>False) E.xc
theorem PostE.ofD {K:PySem.W.Frag} {G G1:Hp} {so:So} {σ:L2.St} {H H1:Hp} {sl s1:DSt} {v:V} {x:D} (p:Post K G so σ H sl H1 G1 s1) (w:DOk K G1 v x):PostE K G so σ H sl v H1 G1 (.d x) s1:=
  { p with val:=w,new:=fun _ _ e=>(nomatch e),sepv:=fun _ _ e=>e.elim (fun e=>(nomatch e)) fun e=>(nomatch e),nbs:=fun _ _ _ _ e=>(nomatch e) }
section
variable {X:Cx} {W:WX} {pos:Pos} {i j:Nat} {x y:Str} {a b:Expr} {ta:TDA}
theorem aiw {px py pt kt k2 pt2} (hc:X.calm=true) (hN:X.N.Nodup) (hi:X.N[i]?=some x) (hj:X.N[j]?=some y) (hij:i≠j)
    (hx:X.env.scope.names.lookup x=some .local) (hy:X.env.scope.names.lookup y=some .local) (ha:DA X W [a,b] ta)
    (hw:swappedStores [.Tuple [.Name x px,.Name y py] kt pt] (.Tuple [a,b] k2 pt2) X.env=pure (some [x,y]))
    (hs:swapsWithSole [.Tuple [.Name x px,.Name y py] kt pt] (.Tuple [a,b] k2 pt2) pos.line X.env=pure false:=by rfl) :
    DS X W (.Assign [.Tuple [.Name x px,.Name y py] kt pt] (.Tuple [a,b] k2 pt2) pos) (dPar i j ta):=by
  refine agp (ps_par hc hN hi hj hij hx hy ha hw hs) fun D σ H hl ⟨G,so,sl,E,rep,q,ok⟩=>?_
  have li:i < σ.length:=by rw [hl];exact (List.getElem?_eq_some_iff.mp hi).1
  have lj:j < σ.length:=by rw [hl];exact (List.getElem?_eq_some_iff.mp hj).1
  refine ⟨G,so,sl,_,E.xc,rep,q,fun vs H1 G1 ds s1 p w z=>?_,ok.xc.ex⟩
  split at z
  · rename_i d1 d2
    obtain ⟨v1,v2,rfl,w1,w2,_⟩:=w.v2
    have n1:∀ o,DV.d d1≠.see o:=fun _ e=>(nomatch e)
    have n2:∀ o,DV.d d2≠.see o:=fun _ e=>(nomatch e)
    have p1:=(PostE.ofD (x:=d1) p w1).set li n1
    have p2:=(PostE.ofD (x:=d2) (Post.refl p1.rep) w2).set (i:=j) (by rw [List.length_set];exact lj) n2
    exact ⟨v1,v2,rfl,ok.nx _ H1 G1 _ (p1.trans p2) z⟩
  · exact z.elim
end
def gcI (n d:Int):Int:=((Nat.gcd n.natAbs d.natAbs:Nat):Int)
structure Nb (B:Nat) (q:Rat):Prop where
  n:q.num.natAbs < 2 ^ B
  d:q.den < 2 ^ B
theorem Nb.mono {B C:Nat} {q:Rat} (h:Nb B q) (le:B<=C):Nb C q:=⟨Nat.lt_of_lt_of_le h.n (Nat.pow_le_pow_right (by decide) le),Nat.lt_of_lt_of_le h.d (Nat.pow_le_pow_right (by decide) le)⟩
def kindD (d:D):Bool:=(tyD d).isSome
def pairK:D->Prop
  | .tup [a,b]=>kindD a=true/\kindD b=true
  | .kt _=>False
  | _=>True
def ratOf:D->Option Rat
  | .int i=>some (i:Rat)
  | .tup [.int a,.int b]=>if 1<=b/\gcI a b=1 then some (Rat.divInt a b) else none
  | _=>none
theorem afL (f:D->D):∀ (n:Nat) (lo:Int),(intsFrom lo n).map f=(List.range n).map fun (i:Nat)=>f (.int (lo + (i:Int)))
  | 0,_=>rfl
  | n + 1,lo=>by
    show f (.int lo)::(intsFrom (lo + 1) n).map f=_
    rw [afL f n (lo + 1),List.range_succ_eq_map,List.map_cons,List.map_map]
    congr 1
    · simp
    · apply List.map_congr_left
      intro i _
      show f (.int (lo + 1 + (i:Int)))=f (.int (lo + ((i + 1:Nat):Int)))
      congr 2
      omega
theorem afJ {d:D}:∀ {n:Nat} {lo:Int},d∈intsFrom lo n->∃ i:Nat,i < n/\d=.int (lo + (i:Int))
  | 0,_,h=>by cases h
  | n + 1,lo,h=>by
    rcases List.mem_cons.mp (show d∈D.int lo::intsFrom (lo + 1) n from h) with e | e
    · exact ⟨0,by omega,by rw [e];simp⟩
    · obtain ⟨i,h1,h2⟩:=afJ e
      exact ⟨i + 1,by omega,by rw [h2];congr 1;omega⟩
section
variable {prog:Program} {w:World} {A:Around} {E:Value->Shared->Prop} {s:Shared} {K:PySem.W.Frag} {C x t:Addr} {name:Str} {v:Value} {B:String} {bmB:List Value} {Q:Unit->Shared->Prop}
structure StK (K:PySem.W.Frag) (C:Addr) (bmB:List Value):Prop where
  sa:PySem.W.findIn K (.ref C) "__setattr__"=some (some (.builtin "object.__setattr__"))
  ov:PySem.W.excOver K C bmB=true
  hd:PySem.W.hasDictIn K C=true
theorem agb (SF:PySem.StoreFacts B bmB "object.__setattr__" "object") (X:K.In s.heap) (T:StK K C bmB) (hx:s.heap.get? x=some (PySem.W.excObj C t none .none)) (ht:PySem.W.takerIn K C name=some none)
    (h:∀ h' tk dx,(∀ b o,b≠x->s.heap.get? b=some o->h'.get? b=some o)->s.heap.get? dx=none->h'.get? x=some (PySem.W.excObj C t (some dx) .none)->h'.Ns1 dx (fun y=>if y=name then some v else none)->Q () { s with heap:=h',toks:=tk }) :
    wpAny (model prog w) A (setAttr (.ref x) name v) Q E s:=by
  have I:PySem.W.InstAt s.heap x (PySem.W.excObj C t none .none) C none:=⟨hx,rfl,rfl,trivial⟩
  refine PySem.W.set_plain X I T.sa (PySem.W.osa_openX (s:={ s with toks:=s.toks + 1 }) SF X I T.ov ht fun b=>?_)
  obtain ⟨cd,hc,hd⟩:=PySem.W.any_some T.hd
  refine wpAny_bind (wpAny_pure (wpAny_bind (PySem.W.instanceDict_exc (s:={ s with toks:=s.toks + 1 }) hx (PySem.W.looks_clsIn X hc) hd ?_)))
  show wpAny _ _ (Builtin.ObjectAttr.storeInDict s.heap.objs.size _ name v) _ _ _
  have lt:=Heap.lt_size hx
  refine HandSPX.store_in_new ⟨_,#[],_,(Heap.get?_update_ne _ _ _ _ (Nat.ne_of_gt lt)).trans (Heap.get?_push_at rfl rfl),rfl,fun e he=>absurd he (by simp),fun _=>rfl⟩ fun h' tk hn hs=>?_
  refine h h' tk s.heap.objs.size (fun b o hb ho=>?_) (Heap.get?_none_of_le (Nat.le_refl _)) ?_ hn
  · exact (hs.2 b (Nat.ne_of_lt (Heap.lt_size ho))).trans ((Heap.get?_update_ne _ _ _ _ hb).trans (Heap.get?_push_of_some _ ho))
  · refine (hs.2 x (Nat.ne_of_lt lt)).trans ?_
    exact Heap.get?_update_self _ (Heap.get?_push_of_some _ hx) rfl
theorem agX {dx:Addr} {m0:Str->Option Value} {nl:List Str} (SF:PySem.StoreFacts B bmB "object.__setattr__" "object") (X:K.In s.heap) (T:StK K C bmB) (hx:s.heap.get? x=some (PySem.W.excObj C t (some dx) .none)) (ht:PySem.W.takerIn K C name=some none)
    (hn:s.heap.Ns1 dx m0) (hw:Within m0 nl) (hz:nl.length<=1000)
    (h:∀ h' tk,(∀ b o,b≠dx->s.heap.get? b=some o->h'.get? b=some o)->h'.Ns1 dx (fun y=>if y=name then some v else m0 y)->Q () { s with heap:=h',toks:=tk }) :
    wpAny (model prog w) A (setAttr (.ref x) name v) Q E s:=by
  obtain ⟨oD,_,_,hoD,_,_⟩:=hn.count hw
  have I:PySem.W.InstAt s.heap x (PySem.W.excObj C t (some dx) .none) C (some oD):=⟨hx,rfl,rfl,hoD⟩
  refine PySem.W.set_plain X I T.sa (PySem.W.osa_openX (s:={ s with toks:=s.toks + 1 }) SF X I T.ov ht fun b=>?_)
  obtain ⟨cd,hc,hd⟩:=PySem.W.any_some T.hd
  refine wpAny_bind (wpAny_pure (wpAny_bind (wpAny_bind (wpAny_loadPart hx (wpAny_bind (PySem.W.Looks.here (s:={ s with toks:=s.toks + 1 }) (PySem.W.looks_clsIn X hc) ?_))))))
  rw [hd]
  refine wpAny_pure (a:=some dx) ?_
  exact PySem.OEX.store_in_old hn hw hz fun h' tk hn' hs=>h h' tk (fun b o hb ho=>(hs.2 b hb).trans ho) hn'
end
inductive Sts (self:Str):List Stmt->List (Str × (Str ⊕ Str))->Prop
  | nil:Sts self [] []
  | con {f m:Str} {j:Nat} {p1 p2 p3 pos:Pos} {rest:List Stmt} {fs:List (Str × (Str ⊕ Str))} (hs:∀ env,swapsWith (.Constant (.str m) j p3) (some (.Attribute (.Name self p1) f p2)) pos.line env=pure false) (r:Sts self rest fs) :
      Sts self (.Assign [.Attribute (.Name self p1) f p2] (.Constant (.str m) j p3) pos::rest) ((f,.inl m)::fs)
  | var {f x:Str} {p1 p2 p3 pos:Pos} {rest:List Stmt} {fs:List (Str × (Str ⊕ Str))} (hs:∀ env,swapsWith (.Name x p3) (some (.Attribute (.Name self p1) f p2)) pos.line env=pure false) (hd:(x == ("__debug__":Str))=false) (r:Sts self rest fs) :
      Sts self (.Assign [.Attribute (.Name self p1) f p2] (.Name x p3) pos::rest) ((f,.inr x)::fs)
def fldV (val:Str->V):List (Str × (Str ⊕ Str))->List (Str × V)->List (Str × V)
  | [],acc=>acc
  | (f,.inl m)::r,acc=>fldV val r ((f,.str m)::acc)
  | (f,.inr x)::r,acc=>fldV val r ((f,val x)::acc)
structure ExAt (h1:Heap) (C e t:Addr) (fs:List (Str × V)) (s:Shared):Prop where
  keep:∀ b o,b≠e->h1.get? b=some o->s.heap.get? b=some o
  at_:(fs=[]/\s.heap.get? e=some (PySem.W.excObj C t none .none))\/∃ dx mA,h1.get? dx=none/\s.heap.get? e=some (PySem.W.excObj C t (some dx) .none)/\s.heap.Ns1 dx mA/\∀ f,RelO (fs.lookup f) (mA f)
section
variable {prog:Program} {w:World} {A:Around} {E:Value->Shared->Prop} {K:PySem.W.Frag} {C e t L:Addr} {B:String} {bmB:List Value} {h1:Heap} {env:Env} {m:Str->Option Value} {self:Str} {val:Str->V}
theorem agg {f:Str} {u:Value} {y:V} {fs:List (Str × V)} {s:Shared} {Q:Unit->Shared->Prop} (SF:PySem.StoreFacts B bmB "object.__setattr__" "object") (T:StK K C bmB) (X:K.In s.heap) (a:ExAt h1 C e t fs s) (e1:∃ o,h1.get? e=some o) (hl:fs.length<=900) (ht:PySem.W.takerIn K C f=some none) (ry:RelV y u)
    (h:∀ h' tk,ExAt h1 C e t ((f,y)::fs) { s with heap:=h',toks:=tk }->Q () { s with heap:=h',toks:=tk }):wpAny (model prog w) A (setAttr (.ref e) f u) Q E s:=by
  rcases a.at_ with ⟨rfl,hx⟩ | ⟨dx,mA,nd,hx,hn,rel⟩
  · refine agb SF X T hx ht fun h' tk dx k nd hx' hn=>h h' tk ⟨fun b o hb ho=>k b o hb (a.keep b o hb ho),.inr ⟨dx,_,?_,hx',hn,relO_put (fs:=[]) ry fun g=>True.intro⟩⟩
    cases z:h1.get? dx with
    | none=>rfl
    | some o=>
      by_cases q:dx=e
      · subst q;rw [hx] at nd;cases nd
      · rw [a.keep dx o q z] at nd;cases nd
  · refine agX SF X T hx ht hn (within_of rel) (by rw [List.length_map];omega) fun h' tk k hn'=>h h' tk ⟨fun b o hb ho=>k b o (fun z=>?_) (a.keep b o hb ho),.inr ⟨dx,_,nd,k e _ (fun z=>?_) hx,hn',relO_put ry rel⟩⟩
    · rw [z,nd] at ho;cases ho
    · obtain ⟨o,ho⟩:=e1
      rw [z,nd] at ho;cases ho
theorem ahM (SF:PySem.StoreFacts B bmB "object.__setattr__" "object") (T:StK K C bmB) (hk:env.scope.kind=.function) (hn:h1.Ns env.locals m) (nL:env.locals≠e) (Kh:K.In h1) (Ke:K.lookup e=none) (e1:∃ o,h1.get? e=some o) (hself:env.kindOf self=some .local) (ms:m self=some (.ref e)) (hsd:(self == ("__debug__":Str))=false) :
    ∀ {body:List Stmt} {fs:List (Str × (Str ⊕ Str))},Sts self body fs->(∀ f∈fs,PySem.W.takerIn K C f.1=some none)->(∀ f∈fs,∀ x,f.2=.inr x->env.kindOf x=some .local/\∃ u,m x=some u/\RelV (val x) u)->
      ∀ {acc:List (Str × V)} {s:Shared} {Q:Flow->Shared->Prop},acc.length + fs.length<=900->ExAt h1 C e t acc s->(∀ h' tk,ExAt h1 C e t (fldV val fs acc) { s with heap:=h',toks:=tk }->Q .next { s with heap:=h',toks:=tk })->
      wpAny (model prog w) A (execs body env) Q E s:=by
  have nsK:∀ {s:Shared} {acc:List (Str × V)},ExAt h1 C e t acc s->s.heap.Ns env.locals m:=fun {s acc} a=>by
    obtain ⟨o,es,ep,e2,r⟩:=hn
    exact ⟨o,es,ep,a.keep _ _ nL e2,r⟩
  have inK:∀ {s:Shared} {acc:List (Str × V)},ExAt h1 C e t acc s->K.In s.heap:=fun {s acc} a b o q=>a.keep b o (fun z=>by subst z;rw [Ke] at q;cases q) (Kh b o q)
  intro body fs st
  induction st with
  | nil=>intro _ _ acc s Q _ a h;exact wpAny_execs_nil (h s.heap s.toks a)
  | @con f m' j p1 p2 p3 pos rest fs hs r ih=>
    intro h1' h2' acc s Q hl a h
    refine wpAny_execs_cons (plainObj_wpAny_Assign_Attribute (Calls.Constant_str ?_) (hs env))
    have a1:ExAt h1 C e t acc { s with toks:=s.toks + 1 }:=⟨a.keep,a.at_⟩
    refine wpAny_Name (wpAny_loadName_local hk hself (nsK a1) ms ?_) hsd
    refine agg SF T (inK a1) a1 e1 (by rw [List.length_cons] at hl;omega) (h1' _ (List.mem_cons_self ..)) (y:=.str m') ⟨_,rfl⟩ fun h' tk a2=>?_
    exact ih (fun f hf=>h1' f (List.mem_cons_of_mem _ hf)) (fun f hf=>h2' f (List.mem_cons_of_mem _ hf)) (by rw [List.length_cons] at hl ⊢;omega) a2 fun h'' tk' a3=>h h'' tk' a3
  | @var f x p1 p2 p3 pos rest fs hs hd r ih=>
    intro h1' h2' acc s Q hl a h
    obtain ⟨kx,u,mx,ru⟩:=h2' _ (List.mem_cons_self ..) x rfl
    refine wpAny_execs_cons (plainObj_wpAny_Assign_Attribute (wpAny_Name (wpAny_loadName_local hk kx (nsK a) mx ?_) hd) (hs env))
    refine wpAny_Name (wpAny_loadName_local hk hself (nsK a) ms ?_) hsd
    refine agg SF T (inK a) a e1 (by rw [List.length_cons] at hl;omega) (h1' _ (List.mem_cons_self ..)) ru fun h' tk a2=>?_
    exact ih (fun f hf=>h1' f (List.mem_cons_of_mem _ hf)) (fun f hf=>h2' f (List.mem_cons_of_mem _ hf)) (by rw [List.length_cons] at hl ⊢;omega) a2 fun h'' tk' a3=>h h'' tk' a3
end
structure ExBase (B newId initId:String) (bmB:List Value):Prop where
  fb:PySem.ExcBaseFacts B newId initId bmB
  kf:PySem.W.KxsFacts B initId
  sf:PySem.StoreFacts B bmB "object.__setattr__" "object"
structure ExK (K:PySem.W.Frag) (file:Str) (C fI:Addr) (params:Arguments) (body:List Stmt) (scope:Scope) (B newId initId:String) (bmB:List Value):Prop where
  st:StK K C bmB
  q:PySem.W.excInitIn K C bmB newId=true
  hi:PySem.W.findIn K (.ref C) "__init__"=some (some (.ref fI))
  ff:PySem.W.typeIn K (.ref fI)=some (.type "function")
  sup:PySem.W.ks_superIn K C C "__init__"=some (some (.builtin initId))
  sub:PySem.W.subIn K (.ref C) (.type B)=some true
  own:PySem.W.mroIn K C (.ref C)=some true
  exC:PySem.W.subIn K (.ref C) (.type "BaseException")=some true
  tyC:PySem.W.typeIn K (.ref C)=some (.type "type")
  kC:PySem.W.keepIn K (.ref C)=true
  op:PySem.W.nsIn K cStatics "thirdparty.any"=some none
  fn:∃ (oc:Value) (od:Option Addr) (osl:Array (Option Value)) (name qual:Str) (doc pm:Value) (an:Option Addr) (cda cc:Addr) (ct:Value) (vs:Array Value) (tf:Tok) (ccl cl:Value) (cdd cld:Option Addr) (ccs csl:Array (Option Value)),
    K.lookup fI=some ⟨oc,od,.func (PySem.W.ksFn name qual params body scope .none .none doc pm an (.ref cda) ct cc),osl⟩/\PySem.W.codeIn K (.ref cda) qual=true/\K.lookup cda=some ⟨ccl,cdd,.fields vs,ccs⟩/\vs[2]?=some (.str file tf)/\K.lookup cc=some ⟨cl,cld,.cell (some (.ref C)),csl⟩
structure ExT (body:List Stmt) (params:Arguments) (scope:Scope) (sf:Str) (ps:List Str) (fs:List (Str × (Str ⊕ Str))):Prop where
  shape:∃ p0 p1 p2 p3 p4 p5 msg j rest,body=.Expr (.Call (.Attribute (.Call (.Name "super" p0) [] [] p1) "__init__" p2) [.Constant (.str msg) j p3] [] p4) p5::rest/\Sts sf rest fs/\
    (∀ env:Env,∃ pl:Sem Bool,eval (.Call (.Attribute (.Call (.Name "super" p0) [] [] p1) "__init__" p2) [.Constant (.str msg) j p3] [] p4) env=(do
      let ov <- attributeBase (.Call (.Name "super" p0) [] [] p1) "__init__" env (eval (.Call (.Name "super" p0) [] [] p1) env)
      standAt p2.atName
      let (f,first) <- holding [ov] (getMethod ov "__init__" pl)
      callWith p4 f first (backTo p4 (starEach [.Constant (.str msg) j p3] env)) []))/\
    (∀ env:Env,env.scope.kind=.function->interactive env=false)/\∀ env:Env,swapsWith (.Call (.Attribute (.Call (.Name "super" p0) [] [] p1) "__init__" p2) [.Constant (.str msg) j p3] [] p4) none p5.line env=pure false
  head:∃ ar,(params.posonlyargs++params.args).head?=some ar/\ar.arg=sf
  ks:scope.names.lookup ("super":Str)=some .globalImplicit
  kc:scope.names.lookup ("__class__":Str)=some .free
  loc:∀ x∈sf::ps,scope.names.lookup x=some .local
  kind:scope.kind=.function
  co:scope.isCoroutine=false
  gen:scope.isGenerator=false
  cell:∀ x∈scope.names,x.2≠.cell
  flds:∀ f∈fs,∀ x,f.2=.inr x->x∈ps
  nod:(sf::ps).Nodup
  sd:(sf == ("__debug__":Str))=false
  len:fs.length<=900
section
variable {prog:Program} {w:World} {A:Around} {R:Result->Shared->Prop} {s:Shared} {K:PySem.W.Frag} {mg mb:Str->Option Value} {file:Str} {C fI e t:Addr} {params:Arguments} {body:List Stmt} {scope:Scope} {B newId initId:String} {bmB:List Value} {self:Str} {ps:List Str} {fs:List (Str × (Str ⊕ Str))} {us:List Value} {vs:List V} {val:Str->V}
theorem aeX:∀ {ps:List Str} {us:List Value} {vs:List V} {x:Str},Vals vs us->vs.length=ps.length->ps.Nodup->x∈ps->∃ u v,(ps.zip us).reverse.lookup x=some u/\(ps.zip vs).lookup x=some v/\RelV v u
  | [],_,_,_,_,_,_,h=>by cases h
  | p::ps,_,_,x,.nil,hl,_,_=>by cases hl
  | p::ps,u::us,v::vs,x,.cons r rs,hl,hn,hx=>by
    rw [List.zip_cons_cons,List.zip_cons_cons,List.reverse_cons,List.lookup_append,List.lookup_cons]
    obtain ⟨np,hn'⟩:=List.nodup_cons.mp hn
    have out:∀ (y:Str),y∉ps->(ps.zip us).reverse.lookup y=none:=fun y hy=>by
      rw [List.lookup_eq_none_iff]
      intro q hq
      have:=(List.of_mem_zip (List.mem_reverse.mp hq)).1
      rw [bne_iff_ne]
      intro z
      exact hy (z ▸ this)
    rcases List.mem_cons.mp hx with rfl | hx
    · rw [out _ np]
      refine ⟨u,v,?_,?_,r⟩
      · simp [List.lookup]
      · simp
    · have ne:(x == p)=false:=by rw [beq_eq_false_iff_ne];intro z;exact np (z ▸ hx)
      obtain ⟨u',v',h1,h2,h3⟩:=aeX rs (by simpa using hl) hn' hx
      refine ⟨u',v',?_,?_,h3⟩
      · rw [h1];rfl
      · rw [List.lookup_cons,ne];exact h2
end
section
variable {X:Cx} {file:Str} {C fI:Addr} {params:Arguments} {body:List Stmt} {scope:Scope} {B newId initId:String} {bmB:List Value} {self:Str} {ps:List Str} {fs:List (Str × (Str ⊕ Str))} {x:Str} {p pos:Pos} {e:Expr} {es:List Expr} {ta:TA}
def xdV (ps:List Str) (fs:List (Str × (Str ⊕ Str))) (vs:List V):List (Str × V):=fldV (fun x=>((ps.zip vs).lookup x).getD .non) fs []
end
section
variable {K:PySem.W.Frag} {G G1:Hp} {so:So} {σ:L2.St} {H H1:Hp} {sl s1:DSt}
end
def fldD (val:Str->D):List (Str × (Str ⊕ Str))->List (Str × D)->List (Str × D)
  | [],acc=>acc
  | (f,.inl m)::r,acc=>fldD val r ((f,.str m)::acc)
  | (f,.inr x)::r,acc=>fldD val r ((f,val x)::acc)
def xdD (ps:List Str) (fs:List (Str × (Str ⊕ Str))) (xs:List D):List (Str × D):=fldD (fun x=>((ps.zip xs).lookup x).getD .non) fs []
theorem afz {K:PySem.W.Frag} {G:Hp} {val:Str->V} {vd:Str->D} (hv:∀ x,DOk K G (val x) (vd x)):∀ (fs:List (Str × (Str ⊕ Str))) {a:List (Str × V)} {b:List (Str × D)},FAll K G a b->FAll K G (fldV val fs a) (fldD vd fs b)
  | [],_,_,h=>h
  | (f,.inl m)::r,_,_,h=>afz hv r (.cons (.str m) h)
  | (f,.inr x)::r,_,_,h=>afz hv r (.cons (hv x) h)
theorem ahi {K:PySem.W.Frag} {G:Hp} (x:Str):∀ {ps:List Str} {vs:List V} {xs:List D},DAll K G vs xs->DOk K G (((ps.zip vs).lookup x).getD .non) (((ps.zip xs).lookup x).getD .non)
  | [],_,_,_=>.non
  | _::_,_,_,.nil=>.non
  | p::ps,_,_,.cons h t=>by
    rw [List.zip_cons_cons,List.zip_cons_cons,List.lookup_cons,List.lookup_cons]
    cases x == p with
    | true=>exact h
    | false=>exact ahi x t
theorem ah7 {K:PySem.W.Frag} {G:Hp} {ps:List Str} {fs:List (Str × (Str ⊕ Str))} {vs:List V} {xs:List D} (h:DAll K G vs xs):FAll K G (xdV ps fs vs) (xdD ps fs xs):=afz (fun x=>ahi x h) fs .nil
structure XCls (P:Program) (K:PySem.W.Frag) (mg:Str->Option Value) (C:Addr) (ps:List Str) (fs:List (Str × (Str ⊕ Str))):Prop where
  how:∃ file fI params body scope B newId initId bmB self,ExBase B newId initId bmB/\ExK K file C fI params body scope B newId initId bmB/\ExT body params scope self ps fs/\((P.main.file:Str) == file)=true/\(P.main.scope.names.lookup ("super":Str)).isSome=false/\
    (∀ (e:Addr) (us:List Value),us.length=ps.length->∀ (name qual:Str) (doc pm:Value) (an:Option Addr) (cda ct:Value) (cc:Addr),bindArgs (PySem.W.ksFn name qual params body scope .none .none doc pm an cda ct cc) ⟨.ref e::us,[]⟩=pure ((self::ps).zip (.ref e::us)))
  ht:∀ f∈fs,PySem.W.takerIn K C f.1=some none
  ne:∀ vs,xdV ps fs vs≠[]
  su:mg ("super":Str)=none
  kC:PySem.W.keepIn K (.ref C)=true
  ln:ps.length<=1000
section
variable {X:Cx} {W:WX} {C:Addr} {ps:List Str} {fs:List (Str × (Str ⊕ Str))} {x:Str} {p pos rpos:Pos} {e:Expr} {es:List Expr} {ta:TDA} {tA:TA}
end
section
variable {X:Cx} {x1 x2 x3 n:Str} {c1 c2 c3:Value} {i k:Nat} {body suite:List Stmt} {b0:Stmt} {q1 q2 q3 tp pos pos':Pos} {tb:WX->TS} {ts:Addr->Value->Option Addr->TS} {Wout:WX}
end
section
variable {X:Cx} {pins:List (Addr × Obj)} {σ:L2.St} {H:Hp} {s:Shared} {c P:Addr} {ps:Array Value} {params:Arguments} {body:Expr} {scope:Scope} {pos:Pos} {Q E:Value->Shared->Prop}
end
section
variable {X:Cx} {pins:List (Addr × Obj)} {σ:L2.St} {H HZ:Hp} {s s1:Shared} {params:Arguments} {xs:List Str}
end
def fieldsOf {α:Type} (c:Str) (fs:List (Str × α)):Option (List α):=
  let g1:=fun (f:Str)=>(fs.lookup f).map fun v=>[v]
  if c∈(["InvalidRatio","InvalidNumber","InvalidName","InvalidLayer","InvalidPlace","InvalidPoint","InvalidForm","InvalidLimit"]:List Str) then g1 "given"
  else if c∈(["InvalidRow","InvalidFact","InvalidCommand"]:List Str) then g1 "at"
  else if c∈(["InvalidStep","UnlikeEnds"]:List Str) then g1 "path"
  else if c∈(["DuplicateName","UnknownName"]:List Str) then g1 "name"
  else if c∈(["InvalidText","UnknownScript"]:List Str) then g1 "word"
  else if c="InvalidTable" then g1 "layer"
  else if c="InvalidWay" then (match fs.lookup ("layer":Str),fs.lookup ("start":Str),fs.lookup ("goal":Str) with
    | some a,some b,some d=>some [a,b,d]
    | _,_,_=>none)
  else if c="Full" then g1 "limit"
  else if c="InvalidPage" then g1 "line"
  else if c="TooMany" then (match fs.lookup ("subject":Str),fs.lookup ("most":Str) with
    | some a,some b=>some [a,b]
    | _,_=>none)
  else some []
def errFields:List Str:=["code","given","at","path","name","word","layer","start","goal","limit","line","subject","most"]
structure ErrC (K:PySem.W.Frag) (cs:List Value) (C:Addr):Prop where
  x:XfC K C
  no:∀ f∈errFields,PySem.W.findIn K (.ref C) f=some none
  is:PySem.W.exmAny K (.ref C) cs=some true
section
variable {K:PySem.W.Frag} {G G1:Hp} {so:So} {σ:L2.St} {H H1 H2:Hp} {sl s1:DSt}
end
section
variable {X:Cx} {W:WX} {K:PySem.W.Frag} {cs:List Value} {x a:Str} {g c:Addr} {fdg:FuncData} {qg:Str} {pg:Arguments} {bg:List Stmt} {sg:Scope} {Ng xs:List Str} {params:Arguments} {body:Expr} {scope:Scope} {te:TD} {k:Nat} {p lpos pos:Pos}
end
section
variable {P:Program} {w:World} {K:PySem.W.Frag} {mg:Str->Option Value} {base:Heap} {x qual:Str} {params:Arguments} {body:List Stmt} {scope:Scope} {dvs:List V} {kws:List (Str × V)} {fa:Addr} {fd:FuncData} {N:List Str} {k:Nat} {t:TDS}
theorem ah1 {ps:List Str} {sp:Sp} (F:FunD K x qual params body scope dvs kws fa fd) (S:FnScope N ps scope) (len:∀ vs H Q E,sp vs H Q E->vs.length=ps.length)
    (hd:∀ (cdv:Value),fd.code=cdv->∀ (A:Around) (outer:List Env) (s:Shared) (H:Hp) (vs:List V) (Q:VK) (E:XK),Room k (A.deeper (envOfC qual scope s.heap.objs.size fa cdv))->(cxOf (L2N.CX P w) P w K mg base N qual scope fa cdv A outer s H E).A.guards=some []->sp vs H Q E->
      ∃ t,PSs (cxOf (L2N.CX P w) P w K mg base N qual scope fa cdv A outer s H E) body t/\t { nx:=fun _ H'=>Q .non H',rt:=Q } (L2.start N vs) H):FnR P w K mg base (k + 1) fa fd ps sp:=by
  obtain ⟨oc,od,dV,kV,doc,pm,an,cdv,ct,osl,e,lk,hcd,z1,z2⟩:=F.ex
  refine ⟨len,fun A outer s H args us vs Q E hroom hg e0 hb r hsp=>?_⟩
  have KX:K.In s.heap:=e0.mod.kin.keeps fun b o e=>(e0.bs b o e).1
  have lim:s.heap.NoLimit:=e0.mod.nolimit.keeps fun b o e=>(e0.bs b o e).1
  have hkind:((ps.zip us).all fun y=>scope.names.lookup y.1 == some .local || scope.names.lookup y.1 == some .cell)=true:=by
    rw [List.all_eq_true]
    rintro ⟨n,u⟩ hy
    rcases S.par n (List.of_mem_zip hy).1 with z | z
    · show (scope.names.lookup n == some .local || _)=true
      rw [z];rfl
    · show (scope.names.lookup n == some .local || scope.names.lookup n == some .cell)=true
      rw [z];rfl
  subst e
  refine Att.call_fn KX lim lk hcd hroom.depth hb hkind (fun s1 x=>?_) S.co S.gen S.kind
  have I:=inv_start (CX:=L2N.CX P w) (E:=E) S hroom.hd e0 (len _ _ _ _ hsp) r x
  obtain ⟨t,pt,qt⟩:=hd cdv rfl A outer s H vs Q E (hroom.deeper _) hg hsp
  refine wpAny_mono (pt.run [] s1 (L2.start N vs) H _ I qt) (fun fl s' hs=>?_) fun e s' hs=>hs
  cases fl with
  | ret u=>
    obtain ⟨v,σ',H',J,rv,z⟩:=hs
    exact ⟨v,H',J.os,J.bare,J.base,J.hok,rv,z⟩
  | next=>
    obtain ⟨σ',H',J,z⟩:=hs
    exact ⟨.non,H',J.os,J.bare,J.base,J.hok,rfl,z⟩
  | brk=>obtain ⟨_,_,_,z⟩:=hs;exact False.elim z
  | cont=>obtain ⟨_,_,_,z⟩:=hs;exact False.elim z
end
def kinds:List String:=["int","bool","str","tuple","list"]
section
variable {K:PySem.W.Frag} {p:Addr × Obj} {C dx:Addr} {fs:List (Str × V)} {c:Str} {σ:L2.St} {H:Hp}
end
abbrev XTxt:=Arguments × List Stmt × Scope
structure XSpec where
  name:Str
  base:Nat
  flds:List Str
  text:XTxt
def xBase:Nat->String × String × String × List Value
  | 0=>("ValueError","ValueError.__new__","ValueError.__init__",[.type "ValueError",.type "Exception",.type "BaseException",.type "object"])
  | 1=>("LookupError","LookupError.__new__","LookupError.__init__",[.type "LookupError",.type "Exception",.type "BaseException",.type "object"])
  | _=>("IndexError","IndexError.__new__","IndexError.__init__",[.type "IndexError",.type "LookupError",.type "Exception",.type "BaseException",.type "object"])
theorem afD (n:Nat):ExBase (xBase n).1 (xBase n).2.1 (xBase n).2.2.1 (xBase n).2.2.2:=by
  match n with
  | 0=>exact ⟨PySem.F.excBase_ValueError,PySem.W.kxs_ValueError,PySem.F.store_ValueError⟩
  | 1=>exact ⟨PySem.F.excBase_LookupError,PySem.W.kxs_LookupError,PySem.F.store_LookupError⟩
  | n + 2=>exact ⟨PySem.F.excBase_IndexError,PySem.W.kxs_IndexError,PySem.F.store_IndexError⟩
def initAt (K:PySem.W.Frag) (C:Addr):Addr:=match PySem.W.findIn K (.ref C) "__init__" with
  | some (some (.ref f))=>f
  | _=>0
def exObs (K:PySem.W.Frag) (C:Addr):Option XTxt:=match K.lookup (initAt K C) with
  | some ⟨_,_,.func fd,_⟩=>(match fd.body with
    | .stmts b=>some (fd.params,b,fd.scope)
    | _=>none)
  | _=>none
def nonV:Value->Bool
  | .none=>true
  | _=>false
theorem agt {v:Value} (h:nonV v=true):v=.none:=by cases v<;>first | rfl | cases h
def fnShape (K:PySem.W.Frag) (file:Str) (fI C:Addr):Bool:=match K.lookup fI with
  | some ⟨_,_,.func fd,_⟩=>decide (fd.globals=mainGlobals) && (decide (fd.builtins=builtinsNs) && (nonV fd.defaults && (nonV fd.kwdefaults && (match fd.closure,fd.code with
    | [(x,cc)],.ref cda=>decide (x="__class__") && (PySem.W.codeIn K (.ref cda) fd.qualname && ((match K.lookup cda with
        | some ⟨_,_,.fields vs,_⟩=>(match (vs[2]? : Option Value) with
          | some (.str f _)=>decide (f=file)
          | _=>false)
        | _=>false) && (match K.lookup cc with
        | some ⟨_,_,.cell (some (.ref D)),_⟩=>decide (D=C)
        | _=>false)))
    | _,_=>false))))
  | _=>false
theorem agV {K:PySem.W.Frag} {file:Str} {C:Addr} {params:Arguments} {body:List Stmt} {scope:Scope} (h:fnShape K file (initAt K C) C=true) (e:exObs K C=some (params,body,scope)) :
    ∃ (oc:Value) (od:Option Addr) (osl:Array (Option Value)) (name qual:Str) (doc pm:Value) (an:Option Addr) (cda cc:Addr) (ct:Value) (vs:Array Value) (tf:Tok) (ccl cl:Value) (cdd cld:Option Addr) (ccs csl:Array (Option Value)),
    K.lookup (initAt K C)=some ⟨oc,od,.func (PySem.W.ksFn name qual params body scope .none .none doc pm an (.ref cda) ct cc),osl⟩/\PySem.W.codeIn K (.ref cda) qual=true/\K.lookup cda=some ⟨ccl,cdd,.fields vs,ccs⟩/\vs[2]?=some (.str file tf)/\K.lookup cc=some ⟨cl,cld,.cell (some (.ref C)),csl⟩:=by
  unfold fnShape at h
  unfold exObs at e
  split at h
  · rename_i oc od fd osl lk
    rw [lk] at e
    obtain ⟨nm,ql,pr,bd,sc,gl,cl,df,kd,doc,pm,an,cd,ct,bn⟩:=fd
    dsimp only at h e
    obtain ⟨h1,h⟩:=He.ba h
    obtain ⟨h2,h⟩:=He.ba h
    obtain ⟨h3,h⟩:=He.ba h
    obtain ⟨h4,h⟩:=He.ba h
    split at h
    · rename_i x cc cda
      obtain ⟨h5,h⟩:=He.ba h
      obtain ⟨h6,h⟩:=He.ba h
      obtain ⟨h7,h8⟩:=He.ba h
      split at e
      · rename_i b
        cases e
        have e1:=of_decide_eq_true h1
        have e2:=of_decide_eq_true h2
        have e5:=of_decide_eq_true h5
        have e3:=agt h3
        have e4:=agt h4
        subst e1 e2 e3 e4 e5
        split at h7
        · rename_i ccl cdd vs ccs lkc
          split at h7
          · rename_i f tf hv
            have e7:=of_decide_eq_true h7
            subst e7
            split at h8
            · rename_i cl cld D csl lcc
              have e8:=of_decide_eq_true h8
              subst e8
              exact ⟨_,_,_,_,_,_,_,_,_,_,_,_,_,_,_,_,_,_,_,lk,h6,lkc,hv,lcc⟩
            · cases h8
          · cases h7
        · cases h7
      · cases e
    · cases h
  · cases h
def csA (K:PySem.W.Frag):List Value:=[.ref (He.ga K "MilesError"),.ref (He.ga K "Missing"),.ref (He.ga K "NothingLeft")]
def xB (K:PySem.W.Frag) (file:Str) (ask:Bool) (e:XSpec):Bool:=
  let C:=He.ga K e.name
  let b:=xBase e.base
  decide (PySem.W.findIn K (.ref C) "__setattr__"=some (some (.builtin "object.__setattr__"))) &&
  (PySem.W.excOver K C b.2.2.2 &&
  (PySem.W.hasDictIn K C &&
  (PySem.W.excInitIn K C b.2.2.2 b.2.1 &&
  (decide (PySem.W.findIn K (.ref C) "__init__"=some (some (.ref (initAt K C)))) &&
  (decide (PySem.W.typeIn K (.ref (initAt K C))=some (.type "function")) &&
  (decide (PySem.W.ks_superIn K C C "__init__"=some (some (.builtin b.2.2.1))) &&
  (decide (PySem.W.subIn K (.ref C) (.type b.1)=some true) &&
  (decide (PySem.W.mroIn K C (.ref C)=some true) &&
  (decide (PySem.W.subIn K (.ref C) (.type "BaseException")=some true) &&
  (decide (PySem.W.typeIn K (.ref C)=some (.type "type")) &&
  (PySem.W.keepIn K (.ref C) &&
  (decide (PySem.W.nsIn K cStatics "thirdparty.any"=some none) &&
  (fnShape K file (initAt K C) C &&
  ((e.flds.all fun f=>decide (PySem.W.takerIn K C f=some none)) &&
  (!ask || (xfB K C &&
  ((errFields.all fun f=>decide (PySem.W.findIn K (.ref C) f=some none)) && decide (PySem.W.exmAny K (.ref C) (csA K)=some true))))))))))))))))))
structure XOk' (K:PySem.W.Frag) (file:Str) (ask:Bool) (e:XSpec):Prop where
  k:ExK K file (He.ga K e.name) (initAt K (He.ga K e.name)) e.text.1 e.text.2.1 e.text.2.2 (xBase e.base).1 (xBase e.base).2.1 (xBase e.base).2.2.1 (xBase e.base).2.2.2
  t:∀ f∈e.flds,PySem.W.takerIn K (He.ga K e.name) f=some none
  r:ask=true->ErrC K (csA K) (He.ga K e.name)
theorem xB_ok {K:PySem.W.Frag} {file:Str} {ask:Bool} {e:XSpec} (h:xB K file ask e=true) (ht:exObs K (He.ga K e.name)=some e.text):XOk' K file ask e:=by
  unfold xB at h
  dsimp only at h
  obtain ⟨h1,h⟩:=He.ba h
  obtain ⟨h2,h⟩:=He.ba h
  obtain ⟨h3,h⟩:=He.ba h
  obtain ⟨h4,h⟩:=He.ba h
  obtain ⟨h5,h⟩:=He.ba h
  obtain ⟨h6,h⟩:=He.ba h
  obtain ⟨h7,h⟩:=He.ba h
  obtain ⟨h8,h⟩:=He.ba h
  obtain ⟨h9,h⟩:=He.ba h
  obtain ⟨h10,h⟩:=He.ba h
  obtain ⟨h11,h⟩:=He.ba h
  obtain ⟨h12,h⟩:=He.ba h
  obtain ⟨h13,h⟩:=He.ba h
  obtain ⟨h14,h⟩:=He.ba h
  obtain ⟨h15,h16⟩:=He.ba h
  refine ⟨⟨⟨of_decide_eq_true h1,h2,h3⟩,h4,of_decide_eq_true h5,of_decide_eq_true h6,of_decide_eq_true h7,of_decide_eq_true h8,of_decide_eq_true h9,of_decide_eq_true h10,of_decide_eq_true h11,h12,of_decide_eq_true h13,agV h14 ht⟩,fun f hf=>of_decide_eq_true (List.all_eq_true.mp h15 f hf),fun ha=>?_⟩
  rw [ha] at h16
  obtain ⟨z1,z⟩:=He.ba (show (xfB K (He.ga K e.name) && _)=true from h16)
  obtain ⟨z2,z3⟩:=He.ba z
  exact ⟨xfB_ok z1,fun f hf=>of_decide_eq_true (List.all_eq_true.mp z2 f hf),of_decide_eq_true z3⟩
theorem XOk'.cls {K:PySem.W.Frag} {file:Str} {ask:Bool} {e:XSpec} {P:Program} {mg:Str->Option Value} {self:Str} {ps:List Str} {fs:List (Str × (Str ⊕ Str))} (h:XOk' K file ask e) (T:ExT e.text.2.1 e.text.1 e.text.2.2 self ps fs) (hf:((P.main.file:Str) == file)=true) (ht:(P.main.scope.names.lookup ("super":Str)).isSome=false)
    (hb:∀ (e':Addr) (us:List Value),us.length=ps.length->∀ (name qual:Str) (doc pm:Value) (an:Option Addr) (cda ct:Value) (cc:Addr),bindArgs (PySem.W.ksFn name qual e.text.1 e.text.2.1 e.text.2.2 .none .none doc pm an cda ct cc) ⟨.ref e'::us,[]⟩=pure ((self::ps).zip (.ref e'::us)))
    (hfl:∀ f∈fs,f.1∈e.flds) (ne:∀ vs,xdV ps fs vs≠[]) (su:mg ("super":Str)=none) (ln:ps.length<=1000):XCls P K mg (He.ga K e.name) ps fs:=
  ⟨⟨file,_,_,_,_,_,_,_,_,self,afD _,h.k,T,hf,ht,hb⟩,fun f hf=>h.t f.1 (hfl f hf),ne,su,h.k.kC,ln⟩
structure LY extends LX where
  file:Str
  ask:Bool
  ex:List XSpec
abbrev AlY:Type:=Bool × He.AlD × List (Option XTxt)
def LY.ok (l:LY) (g:Addr->Option Obj) (K:PySem.W.Frag):Bool:=l.toLX.ok g K && l.ex.all fun e=>xB K l.file l.ask e
def valY (l:LY) (fn:List He.DefD):AlY:=(true,He.valD fn,l.ex.map fun e=>some e.text)
structure SaysY (l:LY) (fa:List He.Fa) (fn:List He.DefD) (h:Heap) (K:PySem.W.Frag):Prop extends SaysX l.toLX fa fn h K where
  x:∀ e∈l.ex,XOk' K l.file l.ask e
def wtK (b:Nat):Key->Nat
  | .inl _=>b + 1
  | .inr z=>10 * z.length + 2
def FineK (b:Nat):Key->Prop
  | .inl i=>i.natAbs < 10 ^ b
  | .inr z=>∀ c∈z.cps.toList,c < 0x110000
def wtKs (b:Nat):List Key->Nat
  | []=>0
  | k::r=>wtK b k + 2 + wtKs b r
mutual
def wt (b:Nat):D->Nat
  | .int _=>b + 1
  | .str z=>10 * z.length + 2
  | .lst ds=>wts b ds + 3
  | .tup ds=>wts b ds + 3
  | .kt ks=>wtKs b ks + 3
  | _=>5
def wts (b:Nat):List D->Nat
  | []=>0
  | d::r=>wt b d + 2 + wts b r
end
mutual
def dep:D->Nat
  | .lst ds=>deps ds + 1
  | .tup ds=>deps ds + 1
  | .kt _=>1
  | _=>0
def deps:List D->Nat
  | []=>0
  | d::r=>max (dep d) (deps r)
end
mutual
def Fine (b:Nat):D->Prop
  | .int i=>i.natAbs < 10 ^ b
  | .str z=>∀ c∈z.cps.toList,c < 0x110000
  | .lst ds=>Fines b ds
  | .tup ds=>Fines b ds
  | .non=>True
  | .bl _=>True
  | .ins _ _=>False
  | .dk _=>False
  | .dt _=>False
  | .any=>False
  | .raw _=>False
  | .kt ks=>∀ k∈ks,FineK b k
def Fines (b:Nat):List D->Prop
  | []=>True
  | d::r=>Fine b d/\Fines b r
end
theorem Shw.intN {i:Int} {b:Nat} (hk:0 < b) (h2:b<=500) (h:i.natAbs < 10 ^ b):Shw 0 (b + 1) (.int i) (.int i):=by
  refine ⟨rfl,by simp [PyData.canLay0],by simp [PyData.depth],?_,?_⟩
  · simp only [PyData.showable]
    refine decide_eq_true ?_
    rcases Nat.eq_zero_or_pos i.natAbs with z | z
    · rw [z];decide
    refine (Nat.log2_lt (by omega)).mpr ?_
    refine Nat.lt_of_lt_of_le h (Nat.le_trans (Nat.pow_le_pow_right (by decide) h2) ?_)
    decide +kernel
  · simp only [PyData.shown]
    rcases Int.lt_or_le i 0 with z | z
    · have e:i=-((i.natAbs:Nat):Int):=by omega
      have h0:(toString (i.natAbs:Int):Str).length<=b:=toString_length_le (by omega) hk (by
        have:((i.natAbs:Nat):Int) < ((10 ^ b:Nat):Int):=Int.ofNat_lt.mpr h
        simpa using this)
      rw [e]
      generalize hm:i.natAbs=m at *
      cases m with
      | zero=>omega
      | succ m=>
        have e2:(toString (-((m + 1:Nat):Int)):String)="-"++toString ((m + 1:Nat):Int):=rfl
        have e3:((toString (-((m + 1:Nat):Int)):String):Str).length=((toString ((m + 1:Nat):Int):String):Str).length + 1:=by
          rw [e2,PySem.ofString_length,PySem.ofString_length,String.length_append]
          have:("-":String).length=1:=rfl
          omega
        rw [e3]
        omega
    · have:=toString_length_le z hk (v:=i) (by
        have:((i.natAbs:Nat):Int) < ((10 ^ b:Nat):Int):=Int.ofNat_lt.mpr h
        rw [Int.natAbs_of_nonneg z] at this
        simpa using this)
      omega
structure ShwS (n L:Nat) (ds:List D) (ps:List PyData):Prop where
  py:D.pyAll ds=some ps
  lay:PyData.canLayAll0 ps=true
  dp:PyData.depthAll ps<=n
  sw:PyData.showableAll ps=true
  ln:((PyData.shownAll ps).map fun t=>t.length + 2).sum<=L
theorem adM:∀ (ts:List Str) (k:Nat) (acc:Str),(PySem.textFrom k acc ts).length<=acc.length + (ts.map fun t=>t.length + 2).sum
  | [],k,acc=>by show acc.length<=_;simp
  | t::r,k,acc=>by
    have h1:=adM r (k + 1) (acc++(if k > 0 then ", " else "":String)++t)
    have e:(acc++(if k > 0 then ", " else "":String)++t).length=acc.length + (if k > 0 then 2 else 0) + t.length:=by
      rw [strLen_append,strLen_append]
      split<;>rfl
    rw [e] at h1
    show (PySem.textFrom (k + 1) (acc++(if k > 0 then ", " else "":String)++t) r).length<=_
    rw [List.map_cons,List.sum_cons]
    have h3:(if k > 0 then 2 else 0)<=2:=by split<;>omega
    omega
theorem afK:∀ ts:List Str,(Str.join ", " ts).length<=(ts.map fun t=>t.length + 2).sum
  | []=>by show 0<=_;omega
  | [x]=>by show x.length<=x.length + 2 + 0;omega
  | x::y::r=>by
    have h1:=afK (y::r)
    show (x++", "++Str.join ", " (y::r)).length<=_
    rw [strLen_append,strLen_append,List.map_cons,List.sum_cons]
    have e2:((", ":String):Str).length=2:=rfl
    omega
theorem ShwS.lst {n L:Nat} {ds:List D} {ps:List PyData} (h:ShwS n L ds ps):Shw (n + 1) (L + 3) (.lst ds) (.list ps):=by
  refine ⟨by unfold D.py;rw [h.py];rfl,by unfold PyData.canLay0;exact h.lay,by unfold PyData.depth;have:=h.dp;omega,by unfold PyData.showable;exact h.sw,?_⟩
  unfold PyData.shown listText
  rw [strLen_append]
  have:=adM (PyData.shownAll ps) 0 "["
  have e1:(("[":String):Str).length=1:=rfl
  have e2:(("]":String):Str).length=1:=rfl
  have:=h.ln
  omega
theorem ShwS.tup {n L:Nat} {ds:List D} {ps:List PyData} (h:ShwS n L ds ps):Shw (n + 1) (L + 3) (.tup ds) (.tuple ps):=by
  refine ⟨by unfold D.py;rw [h.py];rfl,by unfold PyData.canLay0;exact h.lay,by unfold PyData.depth;have:=h.dp;omega,by unfold PyData.showable;exact h.sw,?_⟩
  unfold PyData.shown tupleText
  rw [strLen_append,strLen_append]
  have e1:(("(":String):Str).length=1:=rfl
  have e2:((if (PyData.shownAll ps).length == 1 then ",)" else ")":String):Str).length<=2:=by split<;>decide
  have e3:=afK (PyData.shownAll ps)
  have:=h.ln
  omega
section
variable {b:Nat} (hb:0 < b) (h5:b<=500)
include hb h5
theorem afq:∀ ks:List Key,(∀ k∈ks,FineK b k)->ShwS 0 (wtKs b ks) (ks.map keyD) (ks.map keyPy)
  | [],_=>⟨by simp [D.pyAll],by simp [PyData.canLayAll0],by simp [PyData.depthAll],by simp [PyData.showableAll],by simp [PyData.shownAll]⟩
  | k::r,h=>by
    have e1:Shw 0 (wtK b k) (keyD k) (keyPy k):=by
      have hk:=h k (List.mem_cons_self ..)
      cases k with
      | inl i=>exact Shw.intN hb h5 hk
      | inr z=>exact Shw.str hk (Nat.le_refl _)
    have e2:=afq r fun x hx=>h x (List.mem_cons_of_mem _ hx)
    refine ⟨?_,?_,?_,?_,?_⟩
    · rw [List.map_cons,List.map_cons];unfold D.pyAll;rw [e1.py,e2.py]
    · rw [List.map_cons];unfold PyData.canLayAll0;rw [e1.lay,e2.lay];rfl
    · rw [List.map_cons];unfold PyData.depthAll
      have:=e1.dp;have:=e2.dp
      omega
    · rw [List.map_cons];unfold PyData.showableAll;rw [e1.sw,e2.sw];rfl
    · rw [List.map_cons];unfold PyData.shownAll;rw [wtKs,List.map_cons,List.sum_cons]
      have:=e1.ln;have:=e2.ln
      omega
mutual
theorem aff:∀ d:D,Fine b d->∃ p,Shw (dep d) (wt b d) d p
  | .non,_=>⟨_,Shw.non.mono (Nat.le_refl _) (by show 4<=5;omega)⟩
  | .bl x,_=>⟨_,Shw.bl x⟩
  | .int i,h=>⟨_,Shw.intN hb h5 (by simpa only [Fine] using h)⟩
  | .str z,h=>⟨_,Shw.str (by simpa only [Fine] using h) (Nat.le_refl _)⟩
  | .lst ds,h=>let ⟨ps,e⟩:=aer ds (by simpa only [Fine] using h);⟨_,(by simpa only [dep,wt] using e.lst)⟩
  | .tup ds,h=>let ⟨ps,e⟩:=aer ds (by simpa only [Fine] using h);⟨_,(by simpa only [dep,wt] using e.tup)⟩
  | .ins _ _,h=>by simp [Fine] at h
  | .dk _,h=>by simp [Fine] at h
  | .dt _,h=>by simp [Fine] at h
  | .any,h=>by simp [Fine] at h
  | .raw _,h=>by simp [Fine] at h
  | .kt ks,h=>by
    have h':∀ k∈ks,FineK b k:=by simpa only [Fine] using h
    have z:=(afq hb h5 ks h').tup
    exact ⟨_,⟨by rw [D.py],z.lay,by rw [dep];exact z.dp,z.sw,by rw [wt];exact z.ln⟩⟩
theorem aer:∀ ds:List D,Fines b ds->∃ ps,ShwS (deps ds) (wts b ds) ds ps
  | [],_=>⟨[],by simp [D.pyAll],by simp [PyData.canLayAll0],by simp [PyData.depthAll],by simp [PyData.showableAll],by simp [PyData.shownAll]⟩
  | d::r,h=>by
    rw [Fines] at h
    obtain ⟨p,e1⟩:=aff d h.1
    obtain ⟨ps,e2⟩:=aer r h.2
    refine ⟨p::ps,?_,?_,?_,?_,?_⟩
    · unfold D.pyAll;rw [e1.py,e2.py]
    · unfold PyData.canLayAll0;rw [e1.lay,e2.lay];rfl
    · unfold PyData.depthAll;rw [deps]
      have:=e1.dp;have:=e2.dp
      omega
    · unfold PyData.showableAll;rw [e1.sw,e2.sw];rfl
    · unfold PyData.shownAll;rw [wts,List.map_cons,List.sum_cons]
      have:=e1.ln;have:=e2.ln
      omega
end
theorem ahd {ds:List D} (h:Fines b ds) (h1:deps ds<=60) (h2:wts b ds<=16000000):∃ p,Shows (.lst ds) p:=by
  obtain ⟨p,e⟩:=aff hb h5 (.lst ds) (by simpa only [Fine] using h)
  refine ⟨p,e.shows (.inl ⟨_,rfl⟩) (by rw [dep];omega) (by rw [wt];have:szl=16777216:=rfl;omega)⟩
end
theorem fcons {b:Nat} {d:D} {r:List D} (h:Fine b d) (t:Fines b r):Fines b (d::r):=by rw [Fines];exact ⟨h,t⟩
theorem fint {b:Nat} {i:Int} (h:i.natAbs < 10 ^ b):Fine b (.int i):=by rw [Fine];exact h
theorem fstr {b:Nat} {z:Str} (h:∀ c∈z.cps.toList,c < 0x110000:=by decide +kernel):Fine b (.str z):=by rw [Fine];exact h
theorem fnon {b:Nat}:Fine b .non:=by simp [Fine]
theorem fbl {b:Nat} {x:Bool}:Fine b (.bl x):=by simp [Fine]
theorem ftup {b:Nat} {ds:List D} (h:Fines b ds):Fine b (.tup ds):=by rw [Fine];exact h
theorem flst {b:Nat} {ds:List D} (h:Fines b ds):Fine b (.lst ds):=by rw [Fine];exact h
theorem ag5 {ta:TDA} {u:TDS} {E:EndsD} {sl:DSt} {i j:Nat} (R:D->D->Prop) (h:∀ Q:List DV->DSt->Prop,(∀ x y,R x y->Q [.d x,.d y] sl)->ta sl Q E.xc) (q:∀ x y,R x y->u E ((sl.set i (some (.d x))).set j (some (.d y)))):dSeq (dPar i j ta) u E sl:=h _ fun x y r=>q x y r
theorem ag1 (b:Nat) {Q:DV->Prop} {E:XE'} {ds es:List D} (he:ds=es) (h:Fines b es) (q:Q (.d (.bl true))) (h1:deps es<=60:=by first | decide | exact Nat.le_of_ble_eq_true rfl) (h2:wts b es<=16000000:=by first | decide | exact Nat.le_of_ble_eq_true rfl) (hb:0 < b:=by decide) (h5:b<=500:=by decide):spSame [.d (.lst ds),.d (.lst es)] Q E:=by
  subst he
  obtain ⟨p,s⟩:=ahd hb h5 h h1 h2
  exact agf s q
def kinds6:List String:=["NoneType","bool","int","str","list","tuple"]
def numB (K:PySem.W.Frag) (C:Addr):Bool:=(match PySem.W.clsIn K C with
  | some cd=>(match cd.mro with
    | x::_=>decide (x=.ref C)
    | []=>false)
  | none=>false) && (decide (PySem.W.findIn K (.ref C) "__rmul__"=some none) && decide (PySem.W.findIn K (.ref C) "__radd__"=some none))
structure CInst (K:PySem.W.Frag) (C:Addr):Prop where
  cl:Cls K C
  gc:PySem.W.findIn K (.ref C) "__class__"=some (some (.builtin "object.__class__"))
  gs:PySem.W.specialIn K (.builtin "object.__class__") "__get__"=some (some (.builtin "getset_descriptor.__get__"))
  gt:PySem.W.takesIn K (.builtin "object.__class__")=some true
  mo:PySem.W.mroIn K C (.type "object")=some true
  own:PySem.W.kitOne K (.ref C) (.ref C)=some true
  no:∀ t∈kinds6,PySem.W.kitOne K (.type t) (.ref C)=some false
  ty:∀ t∈kinds6,PySem.W.kitOne K (.ref C) (.type t)=some false
  sub:∀ t∈kinds6,PySem.W.subIn K (.type t) (.ref C)=some false
  ne:PySem.W.findIn K (.ref C) "__ne__"=some (some (.builtin "object.__ne__"))
  nu:numB K C=true
def cB (K:PySem.W.Frag) (C:Addr):Bool:=numB K C && (
  decide (PySem.W.plainGet K C Str.empty=true) && (PySem.W.hasDictIn K C && (PySem.W.plainOver K C && (decide (PySem.W.findIn K (.ref C) "__setattr__"=some (some (.builtin "object.__setattr__"))) &&
  (decide (PySem.W.findIn K (.ref C) "__class__"=some (some (.builtin "object.__class__"))) &&
  (decide (PySem.W.specialIn K (.builtin "object.__class__") "__get__"=some (some (.builtin "getset_descriptor.__get__"))) &&
  (decide (PySem.W.takesIn K (.builtin "object.__class__")=some true) &&
  (decide (PySem.W.mroIn K C (.type "object")=some true) &&
  (decide (PySem.W.kitOne K (.ref C) (.ref C)=some true) &&
  ((kinds6.all fun t=>decide (PySem.W.kitOne K (.type t) (.ref C)=some false)) &&
  ((kinds6.all fun t=>decide (PySem.W.kitOne K (.ref C) (.type t)=some false)) &&
  ((kinds6.all fun t=>decide (PySem.W.subIn K (.type t) (.ref C)=some false)) &&
  decide (PySem.W.findIn K (.ref C) "__ne__"=some (some (.builtin "object.__ne__")))))))))))))))
theorem cB_ok {K:PySem.W.Frag} {C:Addr} (h:cB K C=true):CInst K C:=by
  unfold cB at h
  obtain ⟨h0,h⟩:=He.ba h
  obtain ⟨h1,h⟩:=He.ba h
  obtain ⟨h2,h⟩:=He.ba h
  obtain ⟨h3,h⟩:=He.ba h
  obtain ⟨h4,h⟩:=He.ba h
  obtain ⟨h5,h⟩:=He.ba h
  obtain ⟨h6,h⟩:=He.ba h
  obtain ⟨h7,h⟩:=He.ba h
  obtain ⟨h8,h⟩:=He.ba h
  obtain ⟨h9,h⟩:=He.ba h
  obtain ⟨h10,h⟩:=He.ba h
  obtain ⟨h11,h⟩:=He.ba h
  obtain ⟨h12,h13⟩:=He.ba h
  exact ⟨⟨of_decide_eq_true h1,h2,h3,of_decide_eq_true h4⟩,of_decide_eq_true h5,of_decide_eq_true h6,of_decide_eq_true h7,of_decide_eq_true h8,of_decide_eq_true h9,fun t ht=>of_decide_eq_true (List.all_eq_true.mp h10 t ht),
    fun t ht=>of_decide_eq_true (List.all_eq_true.mp h11 t ht),fun t ht=>of_decide_eq_true (List.all_eq_true.mp h12 t ht),of_decide_eq_true h13,h0⟩
section
variable {K:PySem.W.Frag} {G H:Hp} {so:So} {v:V} {dv:DV} {C:Addr} {fs:List (Str × D)}
end
section
variable {X:Cx} {k:Nat} {f C:Addr} {fd:FuncData} {ps:List Str} {sp:SpD}
end
section
variable {M:Model} {prog:Program} {w:World} {A:Around} {E:Value->Shared->Prop} {s:Shared} {K:PySem.W.Frag} {x C f L:Addr} {ox:Obj} {od:Option Obj} {h₀:Heap} {m:Str->Option Value} {b tb:Value}
end
section
variable {X:Cx} {k:Nat} {f C:Addr} {fd:FuncData} {ps:List Str} {sp:SpD}
end
section
variable {X:Cx} {W:WX} {e:Expr} {es:List Expr} {te:TD} {tr:TDA} {p pos:Pos}
theorem VsOk.app {K:PySem.W.Frag} {G H:Hp} {so:So}:∀ {vs ws:List V} {ds es:List DV},VsOk K G so H vs ds->VsOk K G so H ws es->VsOk K G so H (vs++ws) (ds++es)
  | _,_,_,_,.nil,h=>h
  | _,_,_,_,.cons a b t,h=>.cons a b (VsOk.app t h)
end
section
variable {X:Cx} {W:WX} {k:Nat} {C p g:Addr} {f:Str} {fd:FuncData} {ps:List Str} {sp:SpD} {e:Expr} {te:TD} {pos:Pos}
end
def gAt (K:PySem.W.Frag) (C:Addr) (f:Str):Addr:=match PySem.W.recIn K (He.ma K C f) "property" with
  | some (.ref g::_)=>g
  | _=>(match PySem.W.recIn K (He.ma K C f) "staticmethod" with
    | some (.ref g::_)=>g
    | _=>0)
structure PSpec where
  cls:Str
  prop:Str
  df:He.DefD
  st:Bool:=false
structure SMet (K:PySem.W.Frag) (C:Addr) (m:Str) (p g:Addr):Prop where
  rd:PySem.W.readsIn K C (.type "type")=true
  ga:PySem.W.specialIn K (.ref C) "__getattribute__"=some (some (.builtin "type.__getattribute__"))
  at_:PySem.W.findCls K (.ref C) (.type "type") m=some (.get (.builtin "staticmethod.__get__") (.ref p) .none (.ref C))
  rc:∃ rest,PySem.W.recIn K p "staticmethod"=some (.ref g::rest)
def headS (K:PySem.W.Frag) (p g:Addr):Bool:=match PySem.W.recIn K p "staticmethod" with
  | some (.ref a::_)=>decide (a=g)
  | _=>false
def smB (K:PySem.W.Frag) (C p g:Addr) (m:Str):Bool:=PySem.W.readsIn K C (.type "type") && (decide (PySem.W.specialIn K (.ref C) "__getattribute__"=some (some (.builtin "type.__getattribute__"))) && ((match PySem.W.findCls K (.ref C) (.type "type") m with
  | some (.get (.builtin h) (.ref p') .none (.ref D))=>decide (h="staticmethod.__get__") && (decide (p'=p) && decide (D=C))
  | _=>false) && headS K p g))
theorem aic {K:PySem.W.Frag} {C p g:Addr} {m:Str} (h:smB K C p g m=true):SMet K C m p g:=by
  unfold smB at h
  obtain ⟨h1,h⟩:=He.ba h
  obtain ⟨h2,h⟩:=He.ba h
  obtain ⟨h3,h4⟩:=He.ba h
  refine ⟨h1,of_decide_eq_true h2,?_,?_⟩
  · split at h3
    · rename_i q p' D e
      obtain ⟨k1,k⟩:=He.ba h3
      obtain ⟨k2,k3⟩:=He.ba k
      rw [e,of_decide_eq_true k1,of_decide_eq_true k2,of_decide_eq_true k3]
    · cases h3
  · unfold headS at h4
    split at h4
    · rename_i a rest hr
      exact ⟨rest,by rw [hr,of_decide_eq_true h4]⟩
    · cases h4
def fnWa (K:PySem.W.Frag) (a:Addr):He.FnW:=match K.lookup a with
  | some ⟨_,_,.func fd,_⟩=>some (fd.name,fd.qualname,fd.params,fd.body,fd.scope,fd.globals,fd.closure,fd.builtins)
  | _=>none
def headed (K:PySem.W.Frag) (p g:Addr):Bool:=match PySem.W.recIn K p "property" with
  | some (.ref a::_)=>decide (a=g)
  | _=>false
def pB (K:PySem.W.Frag) (q:PSpec):Bool:=
  let C:=He.ga K q.cls
  let p:=He.ma K C q.prop
  let g:=gAt K C q.prop
  (if q.st then smB K C p g q.prop else decide (PySem.W.findIn K (.ref C) q.prop=some (some (.ref p))) && (decide (PySem.W.specialIn K (.ref p) "__get__"=some (some (.builtin "property.__get__"))) && (decide (PySem.W.takesIn K (.ref p)=some true) && headed K p g))) &&
  (PySem.W.keepIn K (.ref g) && (match K.lookup g with
    | some ⟨_,_,.func fd,_⟩=>PySem.W.codeIn K fd.code q.df.qual && (He.dflB K fd.defaults (q.df.dvs K) && He.kwdB K fd.kwdefaults (q.df.kws K))
    | _=>false))
structure POk (K:PySem.W.Frag) (q:PSpec):Prop where
  p:q.st=false->PropOf K (He.ga K q.cls) q.prop (He.ma K (He.ga K q.cls) q.prop) (gAt K (He.ga K q.cls) q.prop)
  s:q.st=true->SMet K (He.ga K q.cls) q.prop (He.ma K (He.ga K q.cls) q.prop) (gAt K (He.ga K q.cls) q.prop)
  f:∃ fd,FunD K q.df.name q.df.qual q.df.params q.df.body q.df.scope (q.df.dvs K) (q.df.kws K) (gAt K (He.ga K q.cls) q.prop) fd
theorem pB_ok {K:PySem.W.Frag} {q:PSpec} (c:pB K q=true) (e:fnWa K (gAt K (He.ga K q.cls) q.prop)=q.df.val):POk K q:=by
  unfold pB at c
  dsimp only at c
  obtain ⟨c0,c⟩:=He.ba c
  obtain ⟨c5,c6⟩:=He.ba c
  refine ⟨fun hs=>?_,fun hs=>?_,?_⟩
  · rw [hs,if_neg (by decide)] at c0
    obtain ⟨c1,c⟩:=He.ba c0
    obtain ⟨c2,c⟩:=He.ba c
    obtain ⟨c3,c4⟩:=He.ba c
    refine ⟨of_decide_eq_true c1,of_decide_eq_true c2,of_decide_eq_true c3,?_⟩
    unfold headed at c4
    split at c4
    · rename_i a rest hr
      exact ⟨rest,by rw [hr,of_decide_eq_true c4]⟩
    · cases c4
  · rw [hs,if_pos rfl] at c0
    exact aic c0
  · generalize gAt K (He.ga K q.cls) q.prop=g at *
    unfold fnWa at e
    split at c6
    · rename_i oc od fd osl lk
      rw [lk] at e
      obtain ⟨n1,n2,n3,n4,n5,n6,n7,n8,n9,n10,n11,n12,n13,n14,n15⟩:=fd
      have e2:(some (n1,n2,n3,n4,n5,n6,n7,n15):He.FnW)=some (q.df.name,q.df.qual,q.df.params,.stmts q.df.body,q.df.scope,mainGlobals,[],builtinsNs):=e
      simp only [Option.some.injEq,Prod.mk.injEq] at e2
      obtain ⟨h1,h2,h3,h4,h5,h6,h7,h8⟩:=e2
      subst h1 h2 h3 h4 h5 h6 h7 h8
      obtain ⟨k1,k2⟩:=He.ba c6
      obtain ⟨k3,k4⟩:=He.ba k2
      exact ⟨_,⟨oc,od,n8,n9,n10,n11,n12,n13,n14,osl,rfl,lk,k1,He.dflB_ok k3,He.kwdB_ok k4⟩,c5⟩
    · cases c6
structure LZ extends LY where
  ci:List Str
  pr:List PSpec
abbrev AlZ:Type:=Bool × AlY × List He.FnW
def LZ.ok (l:LZ) (K:PySem.W.Frag):Bool:=(l.ci.all fun C=>cB K (He.ga K C)) && l.pr.all (pB K)
def valZ (l:LZ) (fn:List He.DefD):AlZ:=(true,valY l.toLY fn,l.pr.map fun q=>q.df.val)
structure SaysZ (l:LZ) (fa:List He.Fa) (fn:List He.DefD) (h:Heap) (K:PySem.W.Frag):Prop extends SaysY l.toLY fa fn h K where
  ci:∀ C∈l.ci,CInst K (He.ga K C)
  pr:∀ q∈l.pr,POk K q
section
variable {prog:Program} {w:World} {A:Around} {E:Value->Shared->Prop} {s:Shared}
end
mutual
def Pl:D->Prop
  | .lst ds=>Pls ds
  | .tup ds=>Pls ds
  | .ins _ _=>False
  | .dk _=>False
  | .dt _=>False
  | .any=>False
  | .raw _=>False
  | .kt _=>False
  | .non=>True
  | .bl _=>True
  | .int _=>True
  | .str _=>True
def Pls:List D->Prop
  | []=>True
  | d::r=>Pl d/\Pls r
end
theorem Pl.kind {d:D} (h:Pl d):kindD d=true:=by
  cases d<;>first | rfl | (unfold Pl at h;exact h.elim)
theorem Pl.tup {ds:List D} (h:Pl (.tup ds)):Pls ds:=by rw [Pl] at h;exact h
theorem Pls.hd {d:D} {r:List D} (h:Pls (d::r)):Pl d:=by rw [Pls] at h;exact h.1
theorem Pls.tl {d:D} {r:List D} (h:Pls (d::r)):Pls r:=by rw [Pls] at h;exact h.2
theorem Pl.pair {d:D} (h:Pl d):pairK d:=by
  cases d with
  | tup ds=>
    match ds,h with
    | [],_=>exact True.intro
    | [_],_=>exact True.intro
    | [a,b],h=>exact ⟨h.tup.hd.kind,h.tup.tl.hd.kind⟩
    | _::_::_::_,_=>exact True.intro
  | kt _=>rw [Pl] at h;exact h.elim
  | _=>exact True.intro
end DL
namespace DL
section
variable {te:TD} {t u:TDS} {E:EndsD} {sl s':DSt} {i:Nat}
theorem agZ (R:List D->Prop) (h:∀ Q:DV->DSt->Prop,(∀ ds,R ds->Q (.own (.lst ds)) s')->te sl Q E.xc) (q:∀ ds,R ds->u E (s'.set i (some (.own (.lst ds))))):dSeq (dSet te i) u E sl:=h _ q
theorem afR (h:∀ Q:DV->DSt->Prop,Q (.d (.bl true)) s'->te sl Q E.xc) (q:u E s'):dSeq (dIf (dNot (dTru te)) t dNext) u E sl:=h _ (aik (brF q))
end
theorem ae9 {α:Type} (x:α):∀ n:Nat,(List.replicate n [x]).flatten=List.replicate n x
  | 0=>rfl
  | n + 1=>by rw [List.replicate_succ,List.flatten_cons,ae9 x n,List.replicate_succ];rfl
end DL
namespace DL
open PySem PySem.Spec PyProof.Rows L2
section
variable {X:Cx} {W:WX} {e:Expr} {es:List Expr} {ta te:TD} {tr tk:TDA} {p pos kpos:Pos} {kws:List Keyword} {nm:Option Str}
end
section
variable {X:Cx} {W:WX} {e:Expr} {te:TD} {tk:TDA} {kpos:Pos} {kws:List Keyword} {nm:Str}
end
section
variable {K:PySem.W.Frag} {G G2:Hp} {so:So} {σ:L2.St} {H H2:Hp} {sl s2:DSt} {a:Addr} {u:HO}
end
section
variable {X:Cx} {W:WX} {o value:Expr} {to te:TD} {pos pos':Pos}
end
section
variable {X:Cx} {W:WX} {a b:Expr} {ta tb:TD} {i j:Nat} {x y:Str} {pos:Pos}
end
section
variable {X:Cx} {k:Nat} {f C:Addr} {fd:FuncData} {ps:List Str} {sp:SpD}
end
inductive Fa2 {α β:Type} (R:α->β->Prop):List α->List β->Prop
  | nil:Fa2 R [] []
  | cons {x:α} {y:β} {xs:List α} {ys:List β} (h:R x y) (t:Fa2 R xs ys):Fa2 R (x::xs) (y::ys)
section
variable {α β γ:Type} {R:α->β->Prop} {xs:List α} {ys:List β}
theorem Fa2.mono {S:α->β->Prop} (h:Fa2 R xs ys) (k:∀ x y,R x y->S x y):Fa2 S xs ys:=by
  induction h with
  | nil=>exact .nil
  | cons h _ ih=>exact .cons (k _ _ h) ih
end
section
variable {g:TDG} {tt:TDT} {te:TD} {vs:List Nat} {Q:DV->DSt->Prop}
end
def eqKs:List Key->List D->Bool
  | [],[]=>true
  | k::ks,d::ds=>eqF (keyD k) d && eqKs ks ds
  | _,_=>false
def eqKs':List D->List Key->Bool
  | [],[]=>true
  | d::ds,k::ks=>eqF d (keyD k) && eqKs' ds ks
  | _,_=>false
mutual
def eqD:D->D->Bool
  | .lst a,.lst b=>eqDs a b
  | .tup a,.tup b=>eqDs a b
  | .kt a,.kt b=>decide (a=b)
  | .kt a,.tup b=>eqKs a b
  | .tup a,.kt b=>eqKs' a b
  | x,y=>eqF x y
def eqDs:List D->List D->Bool
  | [],[]=>true
  | a::r,b::s=>eqD a b && eqDs r s
  | _,_=>false
end
theorem ahX (k:Key):∀ (d:D) (q:PyData),d.py=some q->PyData.eqv (keyPy k) q=eqF (keyD k) d/\PyData.eqv q (keyPy k)=eqF d (keyD k):=by
  intro d q h
  cases k<;>cases d<;>rw [D.py] at h<;>first | (cases h;done) | (cases h;exact ⟨by rw [keyPy,PyData.eqv];rfl,by rw [keyPy,PyData.eqv];rfl⟩) | (obtain ⟨qs,hq,rfl⟩:=Option.map_eq_some_iff.mp h;exact ⟨by rw [keyPy,PyData.eqv];rfl,by rw [keyPy,PyData.eqv];rfl⟩)
theorem afB:∀ (ks:List Key) (b:List D) (qs:List PyData),D.pyAll b=some qs->PyData.eqvAll (ks.map keyPy) qs=eqKs ks b/\PyData.eqvAll qs (ks.map keyPy)=eqKs' b ks
  | [],[],qs,h=>by rw [D.pyAll] at h;cases h;exact ⟨rfl,rfl⟩
  | [],d::b,qs,h=>by
    rw [D.pyAll] at h
    split at h<;>cases h
    exact ⟨rfl,rfl⟩
  | k::ks,[],qs,h=>by rw [D.pyAll] at h;cases h;exact ⟨rfl,rfl⟩
  | k::ks,d::b,qs,h=>by
    rw [D.pyAll] at h
    split at h
    · rename_i p ps e1 e2
      cases h
      obtain ⟨h1,h2⟩:=ahX k d p e1
      obtain ⟨i1,i2⟩:=afB ks b ps e2
      rw [List.map_cons,PyData.eqvAll,PyData.eqvAll,h1,h2,i1,i2,eqKs,eqKs']
      exact ⟨rfl,rfl⟩
    · cases h
theorem agH:∀ (a b:List Key),PyData.eqvAll (a.map keyPy) (b.map keyPy)=decide (a=b)
  | [],[]=>rfl
  | [],_::_=>rfl
  | _::_,[]=>rfl
  | j::a,k::b=>by
    rw [List.map_cons,List.map_cons,PyData.eqvAll,agH a b]
    have e:PyData.eqv (keyPy j) (keyPy k)=decide (j=k):=by
      cases j with
      | inl i=>cases k with
        | inl m=>rw [keyPy,keyPy,PyData.eqv,key_ll]
        | inr z=>rw [keyPy,keyPy,PyData.eqv,key_lr]
      | inr y=>cases k with
        | inl m=>rw [keyPy,keyPy,PyData.eqv,key_rl]
        | inr z=>
          rw [keyPy,keyPy,PyData.eqv,key_rr]
          by_cases e:y=z
          · subst e;simp
          · rw [decide_eq_false e];exact beq_eq_false_iff_ne.mpr e
    rw [e]
    by_cases h1:j=k
    · subst h1;simp
    · simp [h1]
mutual
theorem ahu:∀ (d e:D) (p q:PyData),d.py=some p->e.py=some q->PyData.eqv p q=eqD d e
  | .lst a,e,p,q,h1,h2=>by
    rw [D.py] at h1
    obtain ⟨ps,hp,rfl⟩:=Option.map_eq_some_iff.mp h1
    cases e with
    | lst b=>
      rw [D.py] at h2
      obtain ⟨qs,hq,rfl⟩:=Option.map_eq_some_iff.mp h2
      rw [PyData.eqv,eqD];exact afC a b ps qs hp hq
    | tup b=>
      rw [D.py] at h2
      obtain ⟨qs,hq,rfl⟩:=Option.map_eq_some_iff.mp h2
      rw [PyData.eqv];rfl
    | ins _ _=>rw [D.py] at h2;cases h2
    | dk _=>rw [D.py] at h2;cases h2
    | dt _=>rw [D.py] at h2;cases h2
    | any=>rw [D.py] at h2;cases h2
    | raw _=>rw [D.py] at h2;cases h2
    | _=>rw [D.py] at h2;cases h2;rw [PyData.eqv];rfl
  | .tup a,e,p,q,h1,h2=>by
    rw [D.py] at h1
    obtain ⟨ps,hp,rfl⟩:=Option.map_eq_some_iff.mp h1
    cases e with
    | tup b=>
      rw [D.py] at h2
      obtain ⟨qs,hq,rfl⟩:=Option.map_eq_some_iff.mp h2
      rw [PyData.eqv,eqD];exact afC a b ps qs hp hq
    | lst b=>
      rw [D.py] at h2
      obtain ⟨qs,hq,rfl⟩:=Option.map_eq_some_iff.mp h2
      rw [PyData.eqv];rfl
    | kt b=>
      rw [D.py] at h2
      cases h2
      rw [PyData.eqv,eqD];exact (afB b a ps hp).2
    | ins _ _=>rw [D.py] at h2;cases h2
    | dk _=>rw [D.py] at h2;cases h2
    | dt _=>rw [D.py] at h2;cases h2
    | any=>rw [D.py] at h2;cases h2
    | raw _=>rw [D.py] at h2;cases h2
    | _=>rw [D.py] at h2;cases h2;rw [PyData.eqv];rfl
  | .non,e,p,q,h1,h2=>by
    rw [D.py] at h1;cases h1
    cases e with
    | lst b=>rw [D.py] at h2;obtain ⟨qs,hq,rfl⟩:=Option.map_eq_some_iff.mp h2;rw [PyData.eqv];rfl
    | tup b=>rw [D.py] at h2;obtain ⟨qs,hq,rfl⟩:=Option.map_eq_some_iff.mp h2;rw [PyData.eqv];rfl
    | ins _ _=>rw [D.py] at h2;cases h2
    | dk _=>rw [D.py] at h2;cases h2
    | dt _=>rw [D.py] at h2;cases h2
    | any=>rw [D.py] at h2;cases h2
    | raw _=>rw [D.py] at h2;cases h2
    | _=>rw [D.py] at h2;cases h2;rw [PyData.eqv];rfl
  | .bl x,e,p,q,h1,h2=>by
    rw [D.py] at h1;cases h1
    cases e with
    | lst b=>rw [D.py] at h2;obtain ⟨qs,hq,rfl⟩:=Option.map_eq_some_iff.mp h2;rw [PyData.eqv];rfl
    | tup b=>rw [D.py] at h2;obtain ⟨qs,hq,rfl⟩:=Option.map_eq_some_iff.mp h2;rw [PyData.eqv];rfl
    | ins _ _=>rw [D.py] at h2;cases h2
    | dk _=>rw [D.py] at h2;cases h2
    | dt _=>rw [D.py] at h2;cases h2
    | any=>rw [D.py] at h2;cases h2
    | raw _=>rw [D.py] at h2;cases h2
    | _=>rw [D.py] at h2;cases h2;rw [PyData.eqv];rfl
  | .int x,e,p,q,h1,h2=>by
    rw [D.py] at h1;cases h1
    cases e with
    | lst b=>rw [D.py] at h2;obtain ⟨qs,hq,rfl⟩:=Option.map_eq_some_iff.mp h2;rw [PyData.eqv];rfl
    | tup b=>rw [D.py] at h2;obtain ⟨qs,hq,rfl⟩:=Option.map_eq_some_iff.mp h2;rw [PyData.eqv];rfl
    | ins _ _=>rw [D.py] at h2;cases h2
    | dk _=>rw [D.py] at h2;cases h2
    | dt _=>rw [D.py] at h2;cases h2
    | any=>rw [D.py] at h2;cases h2
    | raw _=>rw [D.py] at h2;cases h2
    | _=>rw [D.py] at h2;cases h2;rw [PyData.eqv];rfl
  | .str x,e,p,q,h1,h2=>by
    rw [D.py] at h1;cases h1
    cases e with
    | lst b=>rw [D.py] at h2;obtain ⟨qs,hq,rfl⟩:=Option.map_eq_some_iff.mp h2;rw [PyData.eqv];rfl
    | tup b=>rw [D.py] at h2;obtain ⟨qs,hq,rfl⟩:=Option.map_eq_some_iff.mp h2;rw [PyData.eqv];rfl
    | ins _ _=>rw [D.py] at h2;cases h2
    | dk _=>rw [D.py] at h2;cases h2
    | dt _=>rw [D.py] at h2;cases h2
    | any=>rw [D.py] at h2;cases h2
    | raw _=>rw [D.py] at h2;cases h2
    | _=>rw [D.py] at h2;cases h2;rw [PyData.eqv];rfl
  | .ins _ _,e,p,q,h1,h2=>by rw [D.py] at h1;cases h1
  | .dk _,e,p,q,h1,h2=>by rw [D.py] at h1;cases h1
  | .dt _,e,p,q,h1,h2=>by rw [D.py] at h1;cases h1
  | .any,e,p,q,h1,h2=>by rw [D.py] at h1;cases h1
  | .raw _,e,p,q,h1,h2=>by rw [D.py] at h1;cases h1
  | .kt a,e,p,q,h1,h2=>by
    rw [D.py] at h1
    cases h1
    cases e with
    | tup b=>
      rw [D.py] at h2
      obtain ⟨qs,hq,rfl⟩:=Option.map_eq_some_iff.mp h2
      rw [PyData.eqv,eqD];exact (afB a b qs hq).1
    | kt b=>
      rw [D.py] at h2
      cases h2
      rw [PyData.eqv,eqD];exact agH a b
    | lst b=>
      rw [D.py] at h2
      obtain ⟨qs,hq,rfl⟩:=Option.map_eq_some_iff.mp h2
      rw [PyData.eqv];rfl
    | ins _ _=>rw [D.py] at h2;cases h2
    | dk _=>rw [D.py] at h2;cases h2
    | dt _=>rw [D.py] at h2;cases h2
    | any=>rw [D.py] at h2;cases h2
    | raw _=>rw [D.py] at h2;cases h2
    | _=>rw [D.py] at h2;cases h2;rw [PyData.eqv];rfl
theorem afC:∀ (a b:List D) (ps qs:List PyData),D.pyAll a=some ps->D.pyAll b=some qs->PyData.eqvAll ps qs=eqDs a b
  | [],[],ps,qs,h1,h2=>by rw [D.pyAll] at h1 h2;cases h1;cases h2;rfl
  | [],y::b,ps,qs,h1,h2=>by
    rw [D.pyAll] at h1;rw [D.pyAll] at h2;cases h1
    split at h2<;>cases h2
    rfl
  | x::a,[],ps,qs,h1,h2=>by
    rw [D.pyAll] at h1;rw [D.pyAll] at h2;cases h2
    split at h1<;>cases h1
    rfl
  | x::a,y::b,ps,qs,h1,h2=>by
    rw [D.pyAll] at h1 h2
    split at h1
    · rename_i p' ps' e1 e2
      cases h1
      split at h2
      · rename_i q' qs' e3 e4
        cases h2
        rw [PyData.eqvAll,eqDs,ahu x y p' q' e1 e3,afC a b ps' qs' e2 e4]
      · cases h2
    · cases h1
end
theorem ah2 {b:Nat} {d:D} (h:Fine b d) (hd:dep d<=60:=by decide) (hb:0 < b:=by decide) (hb2:b<=500:=by decide):∃ p,d.py=some p/\SeqAt.shaped p=true:=by
  obtain ⟨p,w⟩:=aff hb hb2 d h
  exact ⟨p,w.py,by simp [SeqAt.shaped,w.lay,Nat.le_trans w.dp (show dep d<=64 by omega)]⟩
theorem aio {n:Bool} {v w:DV} {d e:D} {Q:DV->Prop} (hv:v.dat=some d) (hw:w.dat=some e) (h1:∃ p,d.py=some p/\SeqAt.shaped p=true) (h2:∃ p,e.py=some p/\SeqAt.shaped p=true) (q:Q (.d (.bl (if n then !eqD d e else eqD d e)))):eqR n v w Q:=by
  obtain ⟨p,p1,p2⟩:=h1
  obtain ⟨p',p3,p4⟩:=h2
  unfold eqR
  split
  · cases hv;cases hw
    exact q
  · cases hv;cases hw
    rename_i i j
    have z:eqD (.str i) (.str j)=decide (i=j):=by
      show (i == j)=_
      rw [Bool.eq_iff_iff];simp
    rw [z] at q
    exact q
  · cases hv;cases hw
    rename_i i j
    have z:eqD (.bl i) (.bl j)=decide (i=j):=by
      show (i == j)=_
      rw [Bool.eq_iff_iff];simp
    rw [z] at q
    exact q
  · unfold eqDeep
    rw [hv,hw]
    dsimp only
    rw [p1,p3]
    refine ⟨p2,p4,?_⟩
    rw [ahu d e p p' p1 p3]
    exact q
structure Sm (b d w:Nat) (x:D):Prop where
  f:Fine b x
  d:dep x<=d
  w:wt b x<=w
structure Sms (b d w:Nat) (xs:List D):Prop where
  f:Fines b xs
  d:deps xs<=d
  w:wts b xs<=w
section
variable {b d w d' w' m:Nat} {x:D} {xs ys:List D}
theorem Sm.mono (h:Sm b d w x) (h1:d<=d') (h2:w<=w'):Sm b d' w' x:=⟨h.f,Nat.le_trans h.d h1,Nat.le_trans h.w h2⟩
theorem Sms.mono (h:Sms b d w xs) (h1:d<=d') (h2:w<=w'):Sms b d' w' xs:=⟨h.f,Nat.le_trans h.d h1,Nat.le_trans h.w h2⟩
theorem acC:Sms b 0 0 []:=⟨by simp [Fines],by simp [deps],by simp [wts]⟩
theorem abc (h:Sm b d w x) (t:Sms b d' w' xs):Sms b (max d d') (w + 2 + w') (x::xs):=⟨fcons h.f t.f,by rw [deps];have:=h.d;have:=t.d;omega,by rw [wts];have:=h.w;have:=t.w;omega⟩
theorem ae7 (h:∀ x∈xs,Sm b d w x) (hl:xs.length<=m):Sms b d (m * (w + 2)) xs:=by
  induction xs generalizing m with
  | nil=>exact acC.mono (by omega) (by omega)
  | cons x r ih=>
    obtain ⟨k,rfl⟩:∃ k,m=k + 1:=⟨m - 1,by simp at hl;omega⟩
    have z:=ih (m:=k) (fun y hy=>h y (List.mem_cons_of_mem _ hy)) (by simpa using hl)
    have z1:=abc (h x (List.mem_cons_self ..)) z
    refine z1.mono (by omega) ?_
    rw [Nat.succ_mul];omega
theorem aeU (h:Sms b d w xs):Sm b (d + 1) (w + 3) (.tup xs):=⟨ftup h.f,by rw [dep];have:=h.d;omega,by rw [wt];have:=h.w;omega⟩
theorem af9 (h:Sms b d w xs):Sm b (d + 1) (w + 3) (.lst xs):=⟨flst h.f,by rw [dep];have:=h.d;omega,by rw [wt];have:=h.w;omega⟩
theorem aen {i:Int} (h:i.natAbs < 10 ^ b):Sm b 0 (b + 1) (.int i):=⟨fint h,Nat.le_refl _,by rw [wt];omega⟩
theorem aib {i:Bool}:Sm b 0 5 (.bl i):=⟨fbl,Nat.le_refl _,Nat.le_refl _⟩
theorem ahk:Sm b 0 5 .non:=⟨fnon,Nat.le_refl _,Nat.le_refl _⟩
theorem aeV {z:Str} (h:∀ c∈z.cps.toList,c < 0x110000) (hl:z.length<=m):Sm b 0 (10 * m + 2) (.str z):=⟨fstr h,Nat.le_refl _,by rw [wt];omega⟩
theorem Sm.sh (h:Sm b d w x) (hd:d<=60:=by decide) (hb:0 < b:=by decide) (hb2:b<=500:=by decide):∃ p,x.py=some p/\SeqAt.shaped p=true:=ah2 h.f (Nat.le_trans h.d hd) hb hb2
theorem afl {Q:DV->Prop} {E:XE'} {ds es:List D} (he:ds=es) (h:Sms b d w es) (q:Q (.d (.bl true))) (h1:d<=60:=by decide) (h2:w<=16000000:=by decide) (hb:0 < b:=by decide) (hb2:b<=500:=by decide):spSame [.d (.lst ds),.d (.lst es)] Q E:=ag1 b he h.f q (Nat.le_trans h.d h1) (Nat.le_trans h.w h2) hb hb2
end
theorem af7 {b:Nat} (bs:List Bool):Sms b 0 (bs.length * 7) (bs.map D.bl):=ae7 (fun d hd=>by obtain ⟨b,_,rfl⟩:=List.mem_map.mp hd;exact aib) (by rw [List.length_map];exact Nat.le_refl _)
mutual
def nk:D->Bool
  | .lst ds=>nks ds
  | .tup ds=>nks ds
  | .kt _=>false
  | _=>true
def nks:List D->Bool
  | []=>true
  | d::r=>nk d && nks r
end
theorem Sms.hd {b d w:Nat} {x:D} {xs:List D} (h:Sms b d w (x::xs)):Sm b d w x:=by
  have f:=h.f;have hd:=h.d;have hw:=h.w
  rw [Fines] at f;rw [deps] at hd;rw [wts] at hw
  exact ⟨f.1,by omega,by omega⟩
theorem Sms.tl {b d w:Nat} {x:D} {xs:List D} (h:Sms b d w (x::xs)):Sms b d w xs:=by
  have f:=h.f;have hd:=h.d;have hw:=h.w
  rw [Fines] at f;rw [deps] at hd;rw [wts] at hw
  exact ⟨f.2,by omega,by omega⟩
section
variable {K:PySem.W.Frag} {G H:Hp} {so:So} {v:V} {dv:DV}
theorem FAll.keys {κ:Type}:∀ {vs:List (κ × V)} {kvs:List (κ × D)},FAll K G vs kvs->vs.map (·.1)=kvs.map (·.1)
  | _,_,.nil=>rfl
  | _,_,.cons _ t=>by rw [List.map_cons,List.map_cons,FAll.keys t]
end
section
variable {X:Cx} {W:WX} {a b:Expr} {ta tb:TD} {pos:Pos}
end
section
variable {K:PySem.W.Frag}
end
section
variable {K:PySem.W.Frag}
end
section
variable {K:PySem.W.Frag} {G:Hp}
end
section
variable {X:Cx} {W:WX} {pos pos':Pos} {o k value:Expr} {te tk:TD} {i:Nat}
end
section
variable {K:PySem.W.Frag} {G H:Hp}
end
section
variable {K:PySem.W.Frag} {G H:Hp} {so:So} {σ:L2.St} {sl:DSt} {i:Nat} {a:Addr} {kvs:List (Key × D)} {vs:List (Key × V)} {od:Obj}
end
section
variable {X:Cx} {k:Nat} {f C:Addr} {fd:FuncData} {ps:List Str} {sp:SpD}
end
section
variable {X:Cx} {W:WX} {o key value:Expr} {tk te:TD} {pos pos':Pos} {i:Nat}
end
end DL
set_option maxHeartbeats 4000000
namespace K01
open PySem PySem.Spec PyProof.Rows L2 DL
def topS (i:Nat):Stmt:=PySem.Challenge.pw_missingmiles_k01_errors_by_themselves.main.body.getD i (.Pass ⟨0,0,0,0⟩)
abbrev aaP:Stmt:=topS 31
abbrev aaW:Nat:=0
abbrev aaR:Stmt:=topS 32
abbrev aaK:Nat:=1
abbrev abC:Stmt:=topS 33
abbrev abv:Nat:=2
abbrev aa4:Stmt:=topS 34
abbrev aaT:Nat:=3
abbrev aaQ:Stmt:=topS 35
abbrev aaN:Nat:=4
abbrev aaB:Stmt:=topS 36
abbrev aap:Nat:=5
abbrev aaF:Stmt:=topS 37
abbrev aar:Nat:=6
abbrev adK:Stmt:=topS 38
abbrev ahc:Nat:=7
abbrev aak:Stmt:=inClass (topS 3) 0
abbrev aa7:List (Str × (Str ⊕ Str)):=[("code",.inl "InvalidRatio"),("given",.inr "given")]
abbrev acw (given:D):List (Str × D):=[("given",given),("code",.str "InvalidRatio")]
abbrev aag:Stmt:=inClass (topS 4) 0
abbrev aa2:List (Str × (Str ⊕ Str)):=[("code",.inl "InvalidNumber"),("given",.inr "given")]
abbrev ab5 (given:D):List (Str × D):=[("given",given),("code",.str "InvalidNumber")]
abbrev aax:Stmt:=inClass (topS 5) 0
abbrev abo:List (Str × (Str ⊕ Str)):=[("code",.inl "InvalidName"),("given",.inr "given")]
abbrev adb (given:D):List (Str × D):=[("given",given),("code",.str "InvalidName")]
abbrev aah:Stmt:=inClass (topS 6) 0
abbrev aa3:List (Str × (Str ⊕ Str)):=[("code",.inl "DuplicateName"),("name",.inr "name")]
abbrev ab6 (name:D):List (Str × D):=[("name",name),("code",.str "DuplicateName")]
abbrev aaE:Stmt:=inClass (topS 7) 0
abbrev abA:List (Str × (Str ⊕ Str)):=[("code",.inl "InvalidRow"),("at",.inr "at")]
abbrev adt (at_:D):List (Str × D):=[("at",at_),("code",.str "InvalidRow")]
abbrev aao:Stmt:=inClass (topS 8) 0
abbrev abb:List (Str × (Str ⊕ Str)):=[("code",.inl "InvalidLayer"),("given",.inr "given")]
abbrev acA (given:D):List (Str × D):=[("given",given),("code",.str "InvalidLayer")]
abbrev aaj:Stmt:=inClass (topS 9) 0
abbrev aa6:List (Str × (Str ⊕ Str)):=[("code",.inl "InvalidTable"),("layer",.inr "layer")]
abbrev acv (layer:D):List (Str × D):=[("layer",layer),("code",.str "InvalidTable")]
abbrev aaD:Stmt:=inClass (topS 10) 0
abbrev abz:List (Str × (Str ⊕ Str)):=[("code",.inl "InvalidWay"),("layer",.inr "layer"),("start",.inr "start"),("goal",.inr "goal")]
abbrev ads (layer:D) (start:D) (goal:D):List (Str × D):=[("goal",goal),("start",start),("layer",layer),("code",.str "InvalidWay")]
abbrev aam:Stmt:=inClass (topS 11) 0
abbrev aa9:List (Str × (Str ⊕ Str)):=[("code",.inl "InvalidPlace"),("given",.inr "given")]
abbrev acy (given:D):List (Str × D):=[("given",given),("code",.str "InvalidPlace")]
abbrev aal:Stmt:=inClass (topS 12) 0
abbrev aa8:List (Str × (Str ⊕ Str)):=[("code",.inl "InvalidPoint"),("given",.inr "given")]
abbrev acx (given:D):List (Str × D):=[("given",given),("code",.str "InvalidPoint")]
abbrev aay:Stmt:=inClass (topS 13) 0
abbrev abp:List (Str × (Str ⊕ Str)):=[("code",.inl "InvalidForm"),("given",.inr "given")]
abbrev adc (given:D):List (Str × D):=[("given",given),("code",.str "InvalidForm")]
abbrev aav:Stmt:=inClass (topS 14) 0
abbrev abm:List (Str × (Str ⊕ Str)):=[("code",.inl "InvalidStep"),("path",.inr "path")]
abbrev ac9 (path:D):List (Str × D):=[("path",path),("code",.str "InvalidStep")]
abbrev aaC:Stmt:=inClass (topS 15) 0
abbrev aby:List (Str × (Str ⊕ Str)):=[("code",.inl "UnlikeEnds"),("path",.inr "path")]
abbrev adr (path:D):List (Str × D):=[("path",path),("code",.str "UnlikeEnds")]
abbrev aau:Stmt:=inClass (topS 16) 0
abbrev abl:List (Str × (Str ⊕ Str)):=[("code",.inl "InvalidText"),("word",.inr "word")]
abbrev ac8 (word:D):List (Str × D):=[("word",word),("code",.str "InvalidText")]
abbrev aaz:Stmt:=inClass (topS 17) 0
abbrev abq:List (Str × (Str ⊕ Str)):=[("code",.inl "InvalidFact"),("at",.inr "at")]
abbrev add (at_:D):List (Str × D):=[("at",at_),("code",.str "InvalidFact")]
abbrev aae:Stmt:=inClass (topS 18) 0
abbrev aa0:List (Str × (Str ⊕ Str)):=[("code",.inl "UnlikeScripts")]
abbrev ab3:List (Str × D):=[("code",.str "UnlikeScripts")]
abbrev aai:Stmt:=inClass (topS 19) 0
abbrev aa5:List (Str × (Str ⊕ Str)):=[("code",.inl "UnlikeWorlds")]
abbrev acu:List (Str × D):=[("code",.str "UnlikeWorlds")]
abbrev aaI:Stmt:=inClass (topS 20) 0
abbrev abR:List (Str × (Str ⊕ Str)):=[("code",.inl "HasTests")]
abbrev aee:List (Str × D):=[("code",.str "HasTests")]
abbrev aaM:Stmt:=inClass (topS 21) 0
abbrev acJ:List (Str × (Str ⊕ Str)):=[("code",.inl "NoWorld")]
abbrev aeT:List (Str × D):=[("code",.str "NoWorld")]
abbrev aac:Stmt:=inClass (topS 22) 0
abbrev aaV:List (Str × (Str ⊕ Str)):=[("code",.inl "InvalidCommand"),("at",.inr "at")]
abbrev abL (at_:D):List (Str × D):=[("at",at_),("code",.str "InvalidCommand")]
abbrev aan:Stmt:=inClass (topS 23) 0
abbrev aba:List (Str × (Str ⊕ Str)):=[("code",.inl "InvalidLimit"),("given",.inr "given")]
abbrev acz (given:D):List (Str × D):=[("given",given),("code",.str "InvalidLimit")]
abbrev abw:Stmt:=inClass (topS 24) 0
abbrev ae2:List (Str × (Str ⊕ Str)):=[("code",.inl "Full"),("limit",.inr "limit")]
abbrev af4 (limit:D):List (Str × D):=[("limit",limit),("code",.str "Full")]
abbrev aaw:Stmt:=inClass (topS 25) 0
abbrev abn:List (Str × (Str ⊕ Str)):=[("code",.inl "InvalidPage"),("line",.inr "line")]
abbrev ada (line:D):List (Str × D):=[("line",line),("code",.str "InvalidPage")]
abbrev aaL:Stmt:=inClass (topS 26) 0
abbrev acI:List (Str × (Str ⊕ Str)):=[("code",.inl "TooMany"),("subject",.inr "subject"),("most",.inr "most")]
abbrev aeS (subject:D) (most:D):List (Str × D):=[("most",most),("subject",subject),("code",.str "TooMany")]
abbrev aas:Stmt:=inClass (topS 27) 0
abbrev abj:List (Str × (Str ⊕ Str)):=[("code",.inl "UnknownName"),("name",.inr "name")]
abbrev ac6 (name:D):List (Str × D):=[("name",name),("code",.str "UnknownName")]
abbrev aaf:Stmt:=inClass (topS 28) 0
abbrev aa1:List (Str × (Str ⊕ Str)):=[("code",.inl "UnknownScript"),("word",.inr "word")]
abbrev ab4 (word:D):List (Str × D):=[("word",word),("code",.str "UnknownScript")]
abbrev aat:Stmt:=inClass (topS 29) 0
abbrev abk:List (Str × (Str ⊕ Str)):=[("code",.inl "NothingLeft")]
abbrev ac7:List (Str × D):=[("code",.str "NothingLeft")]
theorem ad9 (given:D):xdD ["given"] aa7 [given]=acw given:=by first | rfl | kernel_rfl
theorem adS (given:D):xdD ["given"] aa2 [given]=ab5 given:=by first | rfl | kernel_rfl
theorem aey (given:D):xdD ["given"] abo [given]=adb given:=by first | rfl | kernel_rfl
theorem adT (name:D):xdD ["name"] aa3 [name]=ab6 name:=by first | rfl | kernel_rfl
theorem ae1 (at_:D):xdD ["at"] abA [at_]=adt at_:=by first | rfl | kernel_rfl
theorem aed (given:D):xdD ["given"] abb [given]=acA given:=by first | rfl | kernel_rfl
theorem ad8 (layer:D):xdD ["layer"] aa6 [layer]=acv layer:=by first | rfl | kernel_rfl
theorem ae0 (layer:D) (start:D) (goal:D):xdD ["layer","start","goal"] abz [layer,start,goal]=ads layer start goal:=by first | rfl | kernel_rfl
theorem aeb (given:D):xdD ["given"] aa9 [given]=acy given:=by first | rfl | kernel_rfl
theorem aea (given:D):xdD ["given"] aa8 [given]=acx given:=by first | rfl | kernel_rfl
theorem aez (given:D):xdD ["given"] abp [given]=adc given:=by first | rfl | kernel_rfl
theorem aew (path:D):xdD ["path"] abm [path]=ac9 path:=by first | rfl | kernel_rfl
theorem aeZ (path:D):xdD ["path"] aby [path]=adr path:=by first | rfl | kernel_rfl
theorem aev (word:D):xdD ["word"] abl [word]=ac8 word:=by first | rfl | kernel_rfl
theorem aeA (at_:D):xdD ["at"] abq [at_]=add at_:=by first | rfl | kernel_rfl
theorem adQ:xdD [] aa0 []=ab3:=by first | rfl | kernel_rfl
theorem ad7:xdD [] aa5 []=acu:=by first | rfl | kernel_rfl
theorem aft:xdD [] abR []=aee:=by first | rfl | kernel_rfl
theorem afT:xdD [] acJ []=aeT:=by first | rfl | kernel_rfl
theorem adE (at_:D):xdD ["at"] aaV [at_]=abL at_:=by first | rfl | kernel_rfl
theorem aec (given:D):xdD ["given"] aba [given]=acz given:=by first | rfl | kernel_rfl
theorem ahE (limit:D):xdD ["limit"] ae2 [limit]=af4 limit:=by first | rfl | kernel_rfl
theorem aex (line:D):xdD ["line"] abn [line]=ada line:=by first | rfl | kernel_rfl
theorem afS (subject:D) (most:D):xdD ["subject","most"] acI [subject,most]=aeS subject most:=by first | rfl | kernel_rfl
theorem aet (name:D):xdD ["name"] abj [name]=ac6 name:=by first | rfl | kernel_rfl
theorem adR (word:D):xdD ["word"] aa1 [word]=ab4 word:=by first | rfl | kernel_rfl
theorem aeu:xdD [] abk []=ac7:=by first | rfl | kernel_rfl
def xN:List Str:=["InvalidRatio","InvalidNumber","InvalidName","DuplicateName","InvalidRow","InvalidLayer","InvalidTable","InvalidWay","InvalidPlace","InvalidPoint","InvalidForm","InvalidStep","UnlikeEnds","InvalidText","InvalidFact","UnlikeScripts","UnlikeWorlds","HasTests","NoWorld","InvalidCommand","InvalidLimit","Full","InvalidPage","TooMany","UnknownName","UnknownScript","NothingLeft"]
def xT:List Str:=["InvalidRatio","InvalidNumber","InvalidName","DuplicateName","InvalidRow","InvalidLayer","InvalidTable","InvalidWay","InvalidPlace","InvalidPoint","InvalidForm","InvalidStep","UnlikeEnds","InvalidText","InvalidFact","UnlikeScripts","UnlikeWorlds","HasTests","NoWorld","InvalidCommand","InvalidLimit","Full","InvalidPage","TooMany","UnknownName","UnknownScript","NothingLeft","MilesError","ValueError","Missing","LookupError","IndexError"]
def xA:List (Str × List Str):=[("InvalidRatio",["InvalidRatio","MilesError","ValueError"]),("InvalidNumber",["InvalidNumber","MilesError","ValueError"]),("InvalidName",["InvalidName","MilesError","ValueError"]),("DuplicateName",["DuplicateName","MilesError","ValueError"]),("InvalidRow",["InvalidRow","MilesError","ValueError"]),("InvalidLayer",["InvalidLayer","MilesError","ValueError"]),("InvalidTable",["InvalidTable","MilesError","ValueError"]),("InvalidWay",["InvalidWay","MilesError","ValueError"]),("InvalidPlace",["InvalidPlace","MilesError","ValueError"]),("InvalidPoint",["InvalidPoint","MilesError","ValueError"]),("InvalidForm",["InvalidForm","MilesError","ValueError"]),("InvalidStep",["InvalidStep","MilesError","ValueError"]),("UnlikeEnds",["UnlikeEnds","MilesError","ValueError"]),("InvalidText",["InvalidText","MilesError","ValueError"]),("InvalidFact",["InvalidFact","MilesError","ValueError"]),("UnlikeScripts",["UnlikeScripts","MilesError","ValueError"]),("UnlikeWorlds",["UnlikeWorlds","MilesError","ValueError"]),("HasTests",["HasTests","MilesError","ValueError"]),("NoWorld",["NoWorld","MilesError","ValueError"]),("InvalidCommand",["InvalidCommand","MilesError","ValueError"]),("InvalidLimit",["InvalidLimit","MilesError","ValueError"]),("Full",["Full","MilesError","ValueError"]),("InvalidPage",["InvalidPage","MilesError","ValueError"]),("TooMany",["TooMany","MilesError","ValueError"]),("UnknownName",["UnknownName","Missing","LookupError"]),("UnknownScript",["UnknownScript","Missing","LookupError"]),("NothingLeft",["NothingLeft","IndexError","LookupError"])]
def subX (c t:Str):Bool:=((xA.lookup c).getD []).contains t
def xBt:List (Str × Value):=[("ValueError",.type "ValueError"),("LookupError",.type "LookupError"),("IndexError",.type "IndexError")]
def tvX (K:PySem.W.Frag) (t:Str):Value:=(xBt.lookup t).getD (.ref (He.ga K t))
def xcP (K:PySem.W.Frag) (C:Addr):Bool:=xfB K C && ((errFields.all fun f=>decide (PySem.W.findIn K (.ref C) f=some none)) && (decide (PySem.W.findIn K (.ref C) "__class__"=some (some (.builtin "object.__class__"))) && (decide (PySem.W.specialIn K (.builtin "object.__class__") "__get__"=some (some (.builtin "getset_descriptor.__get__"))) && (decide (PySem.W.takesIn K (.builtin "object.__class__")=some true) && decide (PySem.W.mroIn K C (.type "object")=some true)))))
def xtB (K:PySem.W.Frag):Bool:=xN.all fun c=>xcP K (He.ga K c) && (xT.all fun t=>decide (PySem.W.kitOne K (.ref (He.ga K c)) (tvX K t)=some (subX c t)))
section
variable {P:Program} {w:World} {K:PySem.W.Frag} {mg:Str->Option Value} {base:Heap} {a:Nat->Addr} {d:Nat->FuncData}
def df0:He.DefD:=⟨("_law_source",none),"_law_source","_law_source",defArgs aaP,defBody aaP,defScope aaP,[],[]⟩
def df1:He.DefD:=⟨("_law_draw",none),"_law_draw","_law_draw",defArgs aaR,defBody aaR,defScope aaR,[],[]⟩
def df2:He.DefD:=⟨("_law_of",none),"_law_of","_law_of",defArgs abC,defBody abC,defScope abC,[],[]⟩
def df3:He.DefD:=⟨("_law_same",none),"_law_same","_law_same",defArgs aa4,defBody aa4,defScope aa4,[],[]⟩
def df4:He.DefD:=⟨("_law_fields",none),"_law_fields","_law_fields",defArgs aaQ,defBody aaQ,defScope aaQ,[],[]⟩
def df5:He.DefD:=⟨("_law_first_classes",none),"_law_first_classes","_law_first_classes",defArgs aaB,defBody aaB,defScope aaB,[],[]⟩
def df6:He.DefD:=⟨("_law_last_classes",none),"_law_last_classes","_law_last_classes",defArgs aaF,defBody aaF,defScope aaF,[],[]⟩
def df7:He.DefD:=⟨("law",none),"law","law",defArgs adK,defBody adK,defScope adK,[],[]⟩
def fnL:List He.DefD:=[df0,df1,df2,df3,df4,df5,df6,df7]
def faL:List He.Fa:=([.glo "_law_source",.glo "_law_draw",.glo "_law_of",.glo "_law_same",.glo "_law_fields",.glo "_law_first_classes",.glo "_law_last_classes",.glo "law",.glo "InvalidRatio",.glo "InvalidNumber",.glo "InvalidName",.glo "DuplicateName",.glo "InvalidRow",.glo "InvalidLayer",.glo "InvalidTable",.glo "InvalidWay",.glo "InvalidPlace",.glo "InvalidPoint",.glo "InvalidForm",.glo "InvalidStep",.glo "UnlikeEnds",.glo "InvalidText",.glo "InvalidFact",.glo "UnlikeScripts",.glo "UnlikeWorlds",.glo "HasTests",.glo "NoWorld",.glo "InvalidCommand",.glo "InvalidLimit",.glo "Full"]:List He.Fa)++([.glo "InvalidPage",.glo "TooMany",.glo "UnknownName",.glo "UnknownScript",.glo "NothingLeft",.glo "MilesError",.glo "Missing",.free "IndexError",.free "LookupError",.free "ValueError",.free "int",.free "isinstance",.free "len",.free "list",.free "range",.free "repr",.free "super"]:List He.Fa)
def acp:XSpec:=⟨"InvalidRatio",0,["code","given"],defArgs aak,defBody aak,defScope aak⟩
def ab1:XSpec:=⟨"InvalidNumber",0,["code","given"],defArgs aag,defBody aag,defScope aag⟩
def ac3:XSpec:=⟨"InvalidName",0,["code","given"],defArgs aax,defBody aax,defScope aax⟩
def ab2:XSpec:=⟨"DuplicateName",0,["code","name"],defArgs aah,defBody aah,defScope aah⟩
def adq:XSpec:=⟨"InvalidRow",0,["code","at"],defArgs aaE,defBody aaE,defScope aaE⟩
def act:XSpec:=⟨"InvalidLayer",0,["code","given"],defArgs aao,defBody aao,defScope aao⟩
def aco:XSpec:=⟨"InvalidTable",0,["code","layer"],defArgs aaj,defBody aaj,defScope aaj⟩
def adp:XSpec:=⟨"InvalidWay",0,["code","layer","start","goal"],defArgs aaD,defBody aaD,defScope aaD⟩
def acr:XSpec:=⟨"InvalidPlace",0,["code","given"],defArgs aam,defBody aam,defScope aam⟩
def acq:XSpec:=⟨"InvalidPoint",0,["code","given"],defArgs aal,defBody aal,defScope aal⟩
def ac4:XSpec:=⟨"InvalidForm",0,["code","given"],defArgs aay,defBody aay,defScope aay⟩
def ac1:XSpec:=⟨"InvalidStep",0,["code","path"],defArgs aav,defBody aav,defScope aav⟩
def ado:XSpec:=⟨"UnlikeEnds",0,["code","path"],defArgs aaC,defBody aaC,defScope aaC⟩
def ac0:XSpec:=⟨"InvalidText",0,["code","word"],defArgs aau,defBody aau,defScope aau⟩
def ac5:XSpec:=⟨"InvalidFact",0,["code","at"],defArgs aaz,defBody aaz,defScope aaz⟩
def abZ:XSpec:=⟨"UnlikeScripts",0,["code"],defArgs aae,defBody aae,defScope aae⟩
def acn:XSpec:=⟨"UnlikeWorlds",0,["code"],defArgs aai,defBody aai,defScope aai⟩
def ad6:XSpec:=⟨"HasTests",0,["code"],defArgs aaI,defBody aaI,defScope aaI⟩
def aeR:XSpec:=⟨"NoWorld",0,["code"],defArgs aaM,defBody aaM,defScope aaM⟩
def abK:XSpec:=⟨"InvalidCommand",0,["code","at"],defArgs aac,defBody aac,defScope aac⟩
def acs:XSpec:=⟨"InvalidLimit",0,["code","given"],defArgs aan,defBody aan,defScope aan⟩
def af3:XSpec:=⟨"Full",0,["code","limit"],defArgs abw,defBody abw,defScope abw⟩
def ac2:XSpec:=⟨"InvalidPage",0,["code","line"],defArgs aaw,defBody aaw,defScope aaw⟩
def aeQ:XSpec:=⟨"TooMany",0,["code","subject","most"],defArgs aaL,defBody aaL,defScope aaL⟩
def acY:XSpec:=⟨"UnknownName",1,["code","name"],defArgs aas,defBody aas,defScope aas⟩
def ab0:XSpec:=⟨"UnknownScript",1,["code","word"],defArgs aaf,defBody aaf,defScope aaf⟩
def acZ:XSpec:=⟨"NothingLeft",2,["code"],defArgs aat,defBody aat,defScope aat⟩
def lyL:LZ:={ cs:=[],bs:=[],xs:=[fun K=>xtB K],file:=PySem.Challenge.rw_missingmiles_k01_errors_by_themselves.prog.main.file,ask:=false,ex:=[acp,ab1,ac3,ab2,adq,act,aco,adp,acr,acq,ac4,ac1,ado,ac0,ac5,abZ,acn,ad6,aeR,abK,acs,af3,ac2,aeQ,acY,ab0,acZ],ci:=[],pr:=[] }
def newA (vis:Nat):List Addr->List Addr × Nat
  | []=>([],vis)
  | a::r=>match Nat.beq (Nat.land (Nat.shiftRight vis a) 1) 1 with
    | true=>newA vis r
    | false=>(a::(newA (Nat.lor vis (Nat.shiftLeft 1 a)) r).1,(newA (Nat.lor vis (Nat.shiftLeft 1 a)) r).2)
def lvA (g:Addr->Option Obj):Nat->List Addr->Nat->List Addr
  | 0,_,_=>[]
  | n + 1,fr,vis=>match newA vis (fr.flatMap fun a=>match g a with
      | some o=>He.refsD o
      | none=>[]) with
    | (nx,vis2)=>nx++lvA g n nx vis2
def asA (g:Addr->Option Obj) (n:Nat):List Addr:=(fun as=>as++cStatics::as.flatMap fun a=>match g a with
  | some ⟨_,_,.func fd,_⟩=>fd.closure.map (·.2)++He.refV fd.code
  | some ⟨.type c,_,.seq its _,_⟩=>if c == "tuple" then its.toList.flatMap He.refV else []
  | _=>[]) (mainGlobals::lvA g n [mainGlobals] (Nat.shiftLeft 1 mainGlobals))
def obsXA (n:Nat) (l:LX) (fa:List He.Fa) (fn:List He.DefD) (g:Addr->Option Obj):AlX:=(l.ok g (He.frT g (asA g n)),He.obsD fa fn (He.frT g (asA g n)))
theorem saysA_of {n:Nat} {l:LX} {fa:List He.Fa} {fn:List He.DefD} {h:Heap} (e:obsXA n l fa fn h.get?=valX fn):SaysX l fa fn h (He.frT h.get? (asA h.get? n)):=by
  have e1:l.ok h.get? (He.frT h.get? (asA h.get? n))=true:=congrArg (fun z:AlX=>z.1) e
  obtain ⟨h1,h2⟩:=He.ba e1
  have key:∀ q∈lamFns (He.frT h.get? (asA h.get? n)),PySem.W.codeHdIn (He.frT h.get? (asA h.get? n)) q.1 q.2.1=true/\(∃ o,h.get? q.2.1=some o/\He.emptyTab o=true)/\∀ q'∈lamFns (He.frT h.get? (asA h.get? n)),q.2.1=q'.2.1->q.2.2=q'.2.2:=fun q hq=>by
    obtain ⟨z1,z2⟩:=He.ba (List.all_eq_true.mp h2 q hq)
    obtain ⟨z3,z4⟩:=He.ba z2
    refine ⟨z1,?_,fun q' hq' e=>?_⟩
    · split at z3
      · rename_i o y
        exact ⟨o,y,z3⟩
      · cases z3
    · have y:=List.all_eq_true.mp z4 q' hq'
      rw [Bool.or_eq_true,bne_iff_ne,beq_iff_eq] at y
      exact y.resolve_left fun z=>z e
  refine ⟨h1,congrArg (fun z:AlX=>z.2) e,fun p hp=>(key p hp).1,fun p hp=>?_,fun p hp=>?_,fun q hq q' hq'=>(key q hq).2.2 q' hq'⟩
  · obtain ⟨_,⟨o,q,z⟩,_⟩:=key p hp
    exact He.frT_none q z
  · obtain ⟨_,⟨o,q,z⟩,_⟩:=key p hp
    rw [q,He.emptyTab_eq z]
def obsYA (n:Nat) (l:LY) (fa:List He.Fa) (fn:List He.DefD) (g:Addr->Option Obj):AlY:=(l.ok g (He.frT g (asA g n)),He.obsD fa fn (He.frT g (asA g n)),l.ex.map fun e=>exObs (He.frT g (asA g n)) (He.ga (He.frT g (asA g n)) e.name))
theorem saysYA_of {n:Nat} {l:LY} {fa:List He.Fa} {fn:List He.DefD} {h:Heap} (e:obsYA n l fa fn h.get?=valY l fn):SaysY l fa fn h (He.frT h.get? (asA h.get? n)):=by
  have e1:l.ok h.get? (He.frT h.get? (asA h.get? n))=true:=congrArg (fun z:AlY=>z.1) e
  have e2:He.obsD fa fn (He.frT h.get? (asA h.get? n))=He.valD fn:=congrArg (fun z:AlY=>z.2.1) e
  have e3:(l.ex.map fun e=>exObs (He.frT h.get? (asA h.get? n)) (He.ga (He.frT h.get? (asA h.get? n)) e.name))=l.ex.map fun e=>some e.text:=congrArg (fun z:AlY=>z.2.2) e
  obtain ⟨a1,a2⟩:=He.ba e1
  have b:obsXA n l.toLX fa fn h.get?=valX fn:=by
    show (l.toLX.ok h.get? (He.frT h.get? (asA h.get? n)),He.obsD fa fn (He.frT h.get? (asA h.get? n)))=(true,He.valD fn)
    rw [a1,e2]
  exact { saysA_of b with x:=fun e he=>xB_ok (List.all_eq_true.mp a2 e he) (List.map_inj_left.mp e3 e he) }
def obsZA (n:Nat) (l:LZ) (fa:List He.Fa) (fn:List He.DefD) (g:Addr->Option Obj):AlZ:=(l.ok (He.frT g (asA g n)),obsYA n l.toLY fa fn g,l.pr.map fun q=>fnWa (He.frT g (asA g n)) (gAt (He.frT g (asA g n)) (He.ga (He.frT g (asA g n)) q.cls) q.prop))
theorem age {n:Nat} {l:LZ} {fa:List He.Fa} {fn:List He.DefD} {h:Heap} (e:obsZA n l fa fn h.get?=valZ l fn):SaysZ l fa fn h (He.frT h.get? (asA h.get? n)):=by
  have e1:l.ok (He.frT h.get? (asA h.get? n))=true:=congrArg (fun z:AlZ=>z.1) e
  have e2:obsYA n l.toLY fa fn h.get?=valY l.toLY fn:=congrArg (fun z:AlZ=>z.2.1) e
  have e3:(l.pr.map fun q=>fnWa (He.frT h.get? (asA h.get? n)) (gAt (He.frT h.get? (asA h.get? n)) (He.ga (He.frT h.get? (asA h.get? n)) q.cls) q.prop))=l.pr.map fun q=>q.df.val:=congrArg (fun z:AlZ=>z.2.2) e
  obtain ⟨a1,a2⟩:=He.ba e1
  exact { saysYA_of e2 with ci:=fun C hC=>cB_ok (List.all_eq_true.mp a1 C hC),pr:=fun q hq=>pB_ok (List.all_eq_true.mp a2 q hq) (List.map_inj_left.mp e3 q hq) }
def hookZA (n:Nat) (l:LZ) (fa:List He.Fa) (fn:List He.DefD):PySem.W.Hook where
  α:=AlZ
  obs:=fun s=>obsZA n l fa fn s.heap.get?
  val:=fun _=>valZ l fn
  says:=fun _ h=>∃ K:PySem.W.Frag,K.In h/\SaysZ l fa fn h K
  of:=fun _ _ e=>⟨_,He.frT_in,age e⟩
  keeps:=fun _ _ _ ⟨K,hK,c⟩ k=>⟨K,PySem.W.Frag.In.keeps hK k,⟨⟨⟨c.c,c.s,c.tc,c.tn,fun p hp=>k _ _ (c.te p hp),c.tu⟩,c.x⟩,c.ci,c.pr⟩⟩
theorem ag9 {n:Nat} {l:LZ} {fa:List He.Fa} {fn:List He.DefD} {g:Addr->Option Obj} {s:Shared} (h:∀ a,g a=s.heap.get? a):obsZA n l fa fn g=(hookZA n l fa fn).obs s:=by
  have e:g=s.heap.get?:=funext h
  rw [e]<;>rfl
abbrev RR:PySem.W.OpenRow:=PySem.W.OpenLaw.row PySem.Challenge.rw_missingmiles_k01_errors_by_themselves
abbrev hk:PySem.W.Hook:=hookZA 5 lyL faL fnL
def ob (s:PySem.W.SharedT):AlZ:=obsZA 5 lyL faL fnL (HandSHeadRun.getT s)
theorem ob_eq (s:PySem.W.SharedT):ob s=hk.obs s.abs:=ag9 (HandSHeadRun.getT_eq s)
def names:List PySem.Str:=(["MilesError","Missing","InvalidRatio","InvalidNumber","InvalidName","DuplicateName","InvalidRow","InvalidLayer","InvalidTable","InvalidWay","InvalidPlace","InvalidPoint","InvalidForm","InvalidStep","UnlikeEnds","InvalidText","InvalidFact","UnlikeScripts","UnlikeWorlds","HasTests","NoWorld","InvalidCommand","InvalidLimit","Full","InvalidPage","TooMany","UnknownName","UnknownScript","NothingLeft","_law_source"]:List PySem.Str)++(["_law_draw","_law_of","_law_same","_law_fields","_law_first_classes","_law_last_classes"]:List PySem.Str)
abbrev qv:Program:=PySem.W.view RR.prog [38]
theorem run (w:World):HandSHeadRun.RunEq RR qv hk ob 9000 names w:=by
  intro os
  kernel_rfl
end
end K01
set_option maxHeartbeats 2000000
namespace DL
open PySem PySem.Spec PyProof.Rows L2
section
variable {g:TDG} {tt:TDT} {te:TD} {vs:List Nat} {Q:DV->DSt->Prop}
theorem agw (f:Nat->D) (S:DSt) {n:Nat} (hl:n<=szl)
    (step:∀ i,i < n->∀ (M:D->DSt->Prop) (A:DSt->Prop),M (f i) S->g (.int (i:Int)) S fun s1=>tt s1 (fun b s2=>Br b (te s2 (fun x s3=>match pubV x with
      | .d y=>M y (wipeD s3 vs)
      | _=>False) fun _ _ _=>False) (A (wipeD s2 vs))) fun _ _ _=>False) (q:Q (.own (.lst ((List.range n).map f))) S):dLcL g tt te vs Q (intsFrom 0 n) [] S:=by
  refine ahT (fun d=>match d with | .int i=>f i.toNat | _=>.non) S (by rw [adP];exact hl) (fun d hd M A m=>?_) ?_
  · obtain ⟨i,hi,rfl⟩:=afJ hd
    have e:(0:Int) + (i:Int)=(i:Int):=by omega
    rw [e] at m ⊢
    exact step i hi M A (by simpa using m)
  · rw [afL]
    have e:(List.range n).map (fun (i:Nat)=>(match D.int ((0:Int) + (i:Int)) with | .int i=>f i.toNat | _=>.non))=(List.range n).map f:=List.map_congr_left fun i _=>by
      show f ((0:Int) + (i:Int)).toNat=f i
      congr 1;omega
    rw [e];exact q
end
def Ln (L B:Nat) (q:Rat):Prop:=∃ a:Nat,q=mkRat (a:Int) L/\a<=B
theorem Ln.mono {L B C:Nat} {q:Rat} (h:Ln L B q) (le:B<=C):Ln L C q:=let ⟨a,e,l⟩:=h;⟨a,e,Nat.le_trans l le⟩
section
variable {g:TDG} {tt:TDT} {te:TD} {vs:List Nat} {Q:DV->DSt->Prop}
end
theorem g2 {i j:Nat} {x y:D} {s s':DSt} {Q:DSt->Prop} (e:((s.set i (some (.d x))).set j (some (.d y)))=s') (h:Q s'):gConsD (gD i) (gConsD (gD j) gNilD) [x,y] s Q:=by subst e;exact h
structure Vl where
  q:Rat
  bare:Bool
inductive Itm where
  | tx (z:Str) | vl (x:Vl)
inductive Lf where
  | road (ride:Bool) (ly a b:Str) (v:Vl)
  | place (x a:Str) (v w:Vl)
  | same (a b:Str)
  | forget (a:Str)
  | cap (ly:Str) (v:Vl)
  | scale (ly:Str) (v:Vl)
  | turn
  | round (ly:Str)
def Lf.word:Lf->Str
  | .road r _ _ _ _=>if r then "ride" else "road"
  | .place ..=>"place"
  | .same ..=>"same"
  | .forget ..=>"forget"
  | .cap ..=>"cap"
  | .scale ..=>"scale"
  | .turn=>"turn"
  | .round ..=>"round"
def Lf.rest:Lf->List Itm
  | .road _ ly a b v=>[.tx ly,.tx a,.tx b,.vl v]
  | .place x a v w=>[.tx x,.tx a,.vl v,.vl w]
  | .same a b=>[.tx a,.tx b]
  | .forget a=>[.tx a]
  | .cap ly v=>[.tx ly,.vl v]
  | .scale ly v=>[.tx ly,.vl v]
  | .turn=>[]
  | .round ly=>[.tx ly]
section
variable {g:TDG} {tt:TDT} {te:TD} {vs:List Nat} {Q:DV->DSt->Prop}
theorem adA {α:Type} (h f:α->D) (S:DSt) {xs:List α} (hl:xs.length<=szl)
    (step:∀ x∈xs,∀ (M:D->DSt->Prop) (A:DSt->Prop),M (f x) S->g (h x) S fun s1=>tt s1 (fun b s2=>Br b (te s2 (fun x s3=>match pubV x with
      | .d y=>M y (wipeD s3 vs)
      | _=>False) fun _ _ _=>False) (A (wipeD s2 vs))) fun _ _ _=>False) (q:Q (.own (.lst (xs.map f))) S):dLcL g tt te vs Q (xs.map h) [] S:=by
  have go:∀ (dn r:List α),dn++r=xs->dLcL g tt te vs Q (r.map h) (dn.map f) S:=by
    intro dn r
    induction r generalizing dn with
    | nil=>
      intro e
      rw [List.append_nil] at e
      show dLcL g tt te vs Q [] (dn.map f) S
      rw [afw,e];exact q
    | cons x r ih=>
      intro e
      show dLcL g tt te vs Q (h x::r.map h) (dn.map f) S
      rw [afd]
      have hl2:dn.length < szl:=by
        have:=congrArg List.length e
        rw [List.length_append,List.length_cons] at this
        omega
      refine step x (by rw [<- e];simp) (fun y s=>(dn.map f).length < szl/\dLcL g tt te vs Q (r.map h) (dn.map f++[y]) s) (fun s=>dLcL g tt te vs Q (r.map h) (dn.map f) s) ⟨by rw [List.length_map];exact hl2,?_⟩
      have:=ih (dn++[x]) (by rw [<- e];simp)
      rw [List.map_append] at this
      exact this
  exact go [] xs rfl
end
def Lf.places:Lf->Prop
  | .place ..=>True
  | _=>False
theorem abS (z:Str):∀ gs:List Str,inF (.str z) (gs.map D.str)=decide (z∈gs)
  | []=>rfl
  | g::r=>by
    have ih:=abS z r
    unfold inF at ih ⊢
    rw [List.map_cons,List.any_cons,ih]
    show ((g == z) || decide (z∈r))=decide (z∈g::r)
    by_cases e:g=z
    · subst e;simp
    · have e2:¬ z=g:=fun q=>e q.symm
      rw [beq_eq_false_iff_ne.mpr e,Bool.false_or]
      simp [e2]
end DL
namespace DL
end DL
namespace DL
open PySem PySem.Spec PyProof.Rows L2
section
variable {X:Cx} {W:WX} {o e:Expr} {to te:TD} {apos pos:Pos}
end
section
variable {K:PySem.W.Frag}
end
abbrev tl (x:Str):List Nat:=TL.tl x
structure FnV (P:Program) (w:World) (K:PySem.W.Frag) (mg:Str->Option Value) (base:Heap) (k:Nat) (f:Addr) (sp:SpD):Prop where
  run:∀ (A:Around) (outer:List Env) (s:Shared) (H:Hp) (us:List Value) (vs:List V) (Q:VK) (E:XK),Room k A->A.guards=some []->Env0 P w K mg base A outer s H->Vals vs us->upSp K sp vs H Q E->
    codeAny (model P w) A (.call (.ref f) ⟨us,[]⟩) (CR (L2N.CX P w) outer P w H s Q E) s
theorem FnV.mono {P:Program} {w:World} {K:PySem.W.Frag} {mg:Str->Option Value} {base:Heap} {j k:Nat} {f:Addr} {sp:SpD} (F:FnV P w K mg base j f sp) (h:j<=k):FnV P w K mg base k f sp:=
  ⟨fun A outer s H us vs Q E hr=>F.run A outer s H us vs Q E (hr.mono h)⟩
section
variable {X:Cx} {W:WX} {k:Nat} {f C:Addr} {sp:SpD} {x m:Str} {p pos apos:Pos} {e o:Expr} {es:List Expr} {ta:TDA} {to:TD} {pl:Sem Bool}
end
section
variable {n:Nat} {sp:SpD} {ta:TDA}
end
end DL
namespace DL
open PySem PySem.Spec PyProof.Rows L2 PySem.W
end DL
namespace DL
open PySem PySem.Spec PyProof.Rows L2
section
variable {X:Cx} {W:WX} {o e:Expr} {to te:TD} {apos pos:Pos}
end
end DL
set_option maxHeartbeats 4000000
namespace DL
open PySem PySem.Spec PyProof.Rows L2
section
variable {X:Cx} {W:WX} {elt tg iter:Expr} {ifs:List Expr} {scope:Scope} {own:List (Str × Nat)} {pos spos:Pos} {ti:TDI} {g:TDG} {tt:TDT} {te:TD} {ix:List Nat}
end
section
variable {K:PySem.W.Frag} {G G':Hp} {so:So} {σ:L2.St} {H H':Hp} {sl sl':DSt} {v:V} {dv:DV}
end
section
variable {X:Cx} {W:WX} {e a b c:Expr} {ta tb tc te:TD} {pos apos:Pos}
end
end DL
namespace DL
open PySem PySem.Spec PyProof.Rows L2 PySem.W PySem.Calls
section
variable {prog:Program} {w:World} {A:Around} {E:Value->Shared->Prop} {s:Shared} {a kS:Addr} {b:Bool} {vs:List Value} {keys:Array Value} {e e1:Nat} {P:PySem.Fin->Shared->Prop}
end
theorem PostH.trans {K:PySem.W.Frag} {G G1 G2:Hp} {so:So} {H H1 H2:Hp} (a:PostH K G so H H1 G1) (b:PostH K G1 so H1 H2 G2):PostH K G so H H2 G2:=
  ⟨a.ex.trans b.ex,b.hrep,fun c o e s=>b.keep c o (a.keep c o e s) s,fun c n g s=>b.frm c (by rw [agC a.keep n s.q];exact n) (a.frm c n g s) s⟩
theorem PostH.refl {K:PySem.W.Frag} {G:Hp} {so:So} {H:Hp} (h:HRep K G so H):PostH K G so H H G:=⟨Ex.refl G,h,fun _ _ e _=>e,fun _ _ g _=>g⟩
section
variable {X:Cx} {σ:L2.St} {A:Around} {pins:List (Addr × Obj)} {G H:Hp} {so:So} {s:Shared} {f:Value} {Gc:Hp->Prop} {kf:D->(PyData->Prop)->Prop} {a kS:Addr} {b:Bool} {us:List Value} {vs:List V} {ds:List D} {kz:List PyData} {E:Value->Shared->Prop} {P:PySem.Fin->Shared->Prop} {e1:Nat}
end
section
variable {X:Cx} {W:WX} {k:Nat} {f:Addr} {fd:FuncData} {ps:List Str} {sp:SpD}
end
section
variable {X:Cx} {W:WX} {e fe:Expr} {te:TD} {p kpos pos:Pos} {q:Addr} {kf:D->(PyData->Prop)->Prop}
end
def LamHO (q:Str) (params:Arguments) (body:Expr) (scope:Scope) (f c':Addr):HO:=.ext fun h=>∃ (doc pm ctv:Value),h.get? f=some (kdv_obj "<lambda>" q params (.expr body) scope [] .none doc pm c' ctv)
def LamG (q:Str) (params:Arguments) (body:Expr) (scope:Scope) (f:Addr) (G:Hp):Prop:=∃ c',G f=some (LamHO q params body scope f c')/\G c'=some (LamX.CodeO c' q)
theorem LamG.mono {q:Str} {params:Arguments} {body:Expr} {scope:Scope} {f:Addr} {G G1:Hp} (e:Ex G G1) (h:LamG q params body scope f G):LamG q params body scope f G1:=by
  obtain ⟨c',h1,h2⟩:=h
  exact ⟨c',e _ _ h1,e _ _ h2⟩
section
variable {X:Cx} {k:Nat} {q x:Str} {params:Arguments} {body:Expr} {scope:Scope} {te:TD}
end
section
variable {X:Cx} {pins:List (Addr × Obj)} {σ:L2.St} {H:Hp} {s:Shared} {c P:Addr} {ps:Array Value} {params:Arguments} {body:Expr} {scope:Scope} {pos:Pos} {Q E:Value->Shared->Prop}
end
section
variable {K:PySem.W.Frag} {G G1:Hp} {so:So} {σ:L2.St} {H H1 H2:Hp} {sl s1:DSt}
end
section
variable {X:Cx} {W:WX} {e:Expr} {te tl:TD} {p kpos pos lpos:Pos} {c:Addr} {k:Nat} {x:Str} {params:Arguments} {body:Expr} {scope:Scope}
end
end DL
namespace DL
open PySem PySem.Spec PyProof.Rows L2
section
variable {X:Cx} {W:WX} {a b:Expr} {ta tb:TD} {pos:Pos}
end
section
variable {β γ:Type}
end
section
variable {M:Model} {prog:Program} {w:World} {A:Around} {E:Value->Shared->Prop} {s:Shared} {K:PySem.W.Frag} {x C f:Addr} {ox:Obj} {od:Option Obj} {b:Value} {nm:String} {T:String}
end
section
variable {X:Cx} {W:WX} {k:Nat} {f C:Addr} {fd:FuncData} {ps:List Str} {sp:SpD} {a b:Expr} {ta tb:TD} {pos:Pos}
end
section
variable {K:PySem.W.Frag} {G H:Hp}
end
section
variable {X:Cx}
end
section
variable {prog:Program} {w:World} {κ:Type} [DecidableEq κ] {knd:HeapKind prog w κ} {A:Around} {E:Value->Shared->Prop} {s:Shared}
end
section
variable {X:Cx} {pins:List (Addr × Obj)} {σ:L2.St} {H:Hp} {s:Shared}
end
end DL
namespace DL
open PySem PySem.Spec PyProof.Rows L2 PySem.W
end DL
namespace DL
open PySem PySem.Spec PyProof.Rows L2
section
variable {prog:Program} {w:World} {A:Around} {E:Value->Shared->Prop} {s:Shared} {K:PySem.W.Frag} {x y C f:Addr} {ox oy:Obj} {od od':Option Obj} {nm:String}
end
section
variable {X:Cx} {W:WX} {k:Nat} {f C:Addr} {fd:FuncData} {ps:List Str} {sp:SpD} {a b:Expr} {ta tb:TD} {pos:Pos}
end
section
open PySem.W PySem.Calls PyProof.V DT
variable {prog:Program} {w:World} {A:Around} {E:Value->Shared->Prop} {s:Shared} {v d:Addr} {es:Array DictEntry} {ep:Nat}
end
section
variable {X:Cx}
end
section
variable {X:Cx} {W:WX}
end
section
variable {g:TDG} {tt:TDT} {te:TD} {vs:List Nat} {Q:DV->DSt->Prop}
end
section
variable {K:PySem.W.Frag} {X:Cx}
end
section
variable {α:Type} [DecidableEq α] (U:α->α->Bool)
def kStep (C:α->Bool) (acc:List α) (f:α):List α:=if decide (f∈acc)=false/\C f=true then acc++[f] else acc
abbrev kept (C:α->Bool) (P:List α):List α:=P.foldl (kStep C) []
variable {U}
end
section
variable {X:Cx} {W:WX} {k:Nat} {f C:Addr} {sp:SpD} {m:Str} {pos apos:Pos} {o e:Expr} {es:List Expr} {ta:TDA} {to:TD} {pl:Sem Bool}
end
section
variable {g:TDG} {tt:TDT} {tk tv:TD} {vs:List Nat} {Q:DV->DSt->Prop}
end
section
variable {X:Cx} {W:WX} {kx vx tg iter:Expr} {ifs:List Expr} {scope:Scope} {own:List (Str × Nat)} {pos:Pos} {ti:TDI} {g:TDG} {tt:TDT} {tk tv:TD} {ix:List Nat}
end
section
variable {X:Cx} {kx vx tg iter:Expr} {ifs:List Expr} {scope:Scope} {own:List (Str × Nat)} {pos spos py:Pos} {wi:TI} {g:TG} {tt:TT} {tk tv:TE} {i:Nat} {y:Str}
end
section
variable {X:Cx} {W:WX} {kx vx tg iter:Expr} {ifs:List Expr} {scope:Scope} {own:List (Str × Nat)} {pos spos:Pos} {ti:TDI} {g:TDG} {tt:TDT} {tk tv:TD} {ix:List Nat}
end
section
variable {X:Cx} {W:WX} {a b:Expr} {ta tb:TD} {pos:Pos}
end
section
variable {P:Program} {w:World} {A:Around} {E:Value->Shared->Prop} {s:Shared}
abbrev mh (P:Program) (w:World) (k:List Key):Int:=tupleKeyHash (mixKind P w) k
def rowsM (P:Program) (w:World) (L:List (Addr × List Key)):List (Int × Value):=L.map fun p=>(mh P w p.2,Value.ref p.1)
def hsM (P:Program) (w:World) (L:List (Addr × List Key)):List Int:=L.map fun p=>mh P w p.2
structure SetM (P:Program) (w:World) (h:Heap) (a:Addr) (L:List (Addr × List Key)) (es:Array (Int × Value)) (ep:Nat) (t:SetTable):Prop where
  ob:∃ o,h.get? a=some o/\o.ExactSet/\o.data=.set es ep t
  rows:es.toList=rowsM P w L
  tab:L2.TabOk t (hsM P w L)
  nd:(L.map (·.2)).Nodup
  led:w.params.followText "set-order"=true\/t.led=true
  room:L.length * 5 < t.mask * 3
  few:L.length < 64
theorem agi {es:Array (Int × Value)} {L:List (Addr × List Key)} (h:es.toList=rowsM P w L):es.size=L.length:=by
  have z:=congrArg List.length h
  rw [Array.length_toList] at z
  rw [z,rowsM,List.length_map]
variable {a:Addr} {L:List (Addr × List Key)} {es:Array (Int × Value)} {ep:Nat} {t:SetTable} {h:Heap}
theorem SetM.size (R:SetM P w h a L es ep t):es.size=L.length:=agi R.rows
theorem SetM.keep {h':Heap} (R:SetM P w h a L es ep t) (k:∀ o,h.get? a=some o->h'.get? a=some o):SetM P w h' a L es ep t:=by
  obtain ⟨o,ho,r⟩:=R.ob
  exact ⟨⟨o,k o ho,r⟩,R.rows,R.tab,R.nd,R.led,R.room,R.few⟩
end
section
variable {X:Cx}
end
section
variable {X:Cx} {W:WX} {e:Expr} {te:TD} {tl th:TDO} {pos p2:Pos} {lo hi:Option Expr} {K:PySem.W.Frag}
end
section
variable {g:TDG} {tt:TDT} {te:TD} {vs:List Nat} {F:List (List Key)->DSt->Prop}
end
section
variable {X:Cx} {W:WX} {elt tg iter:Expr} {ifs:List Expr} {scope:Scope} {own:List (Str × Nat)} {pos p lpos:Pos} {ti:TDI} {g:TDG} {tt:TDT} {te:TD} {ix:List Nat}
end
section
variable {g:TDG} {tt:TDT} {te:TD} {vs:List Nat} {F:List (List Key)->DSt->Prop}
end
section
variable {prog:Program} {w:World} {A:Around} {R:Result->Shared->Prop} {s:Shared} {elt t i:Expr} {ifs:List Expr} {gens:List Comprehension} {scope:Scope} {pos:Pos} {it acc:Value} {env:Env} {d:Nat}
end
def Ends (Y:Cx) (pins:List (Addr × Obj)) (σ:L2.St) (vs:List Nat) (Nx:Hp->Prop) (F:Shared->Prop):Prop:=∀ (σ':L2.St) (s':Shared) (H':Hp),Inv Y pins σ' H' s'->σ'.length=σ.length->(∀ (j:Nat) v,(wipe σ vs)[j]?=some (some v)->σ'[j]?=some (some v))->Nx H'->F s'
section
variable {Y:Cx} {elt:Expr} {gens:List Comprehension} {scope:Scope} {pos:Pos} {acc:Value}
end
section
variable {X:Cx}
end
section
variable {K:PySem.W.Frag} {G H:Hp} {so:So} {σ:L2.St} {sl:DSt}
end
section
variable {X:Cx} {tg e:Expr} {te:TD}
end
abbrev DBody:=(List D->DSt->Prop)->List D->DSt->Prop
section
variable {body:DBody} {g:TDG} {tt:TDT} {vs:List Nat} {F:List D->DSt->Prop} {acc:List D} {sl:DSt}
end
structure ClX where
  tg:Expr
  iter:Expr
  ifs:List Expr
  ti:TDI
  g':TG
  g:TDG
  tt:TDT
  vs:List Nat
  ix:List Nat
structure CSt (K:PySem.W.Frag) (C:Addr) (n:Nat) (G:Hp) (so:So) (σ:L2.St) (H:Hp) (sl:DSt) (us:List V) (acc:List D):Prop where
  rep:Rep K G so σ H sl
  hC:H C=some (.lst us)
  gC:G C=none
  nt:so.Nt C
  no:¬ Own sl σ C
  al:DAll K G us acc
  nb:∀ (j:Nat) (o:OO),sl[j]?=some (some (.bor o))->σ[j]?=some (some (.ref C))->False
  ln:σ.length=n
structure CR (C:Addr) (so:So) (G:Hp) (σ:L2.St) (H:Hp) (sl:DSt) (G':Hp) (σ':L2.St) (H':Hp) (sl':DSt):Prop where
  ex:Ex G G'
  keep:∀ a o,a≠C->H a=some o->so.Nt a->H' a=some o
  frm:∀ a,H a≠none->G a=none->so.Nt a->¬ Own sl σ a->G' a=none
  sub:∀ a,Own sl' σ' a->Own sl σ a
  bs:∀ (j:Nat) (o:OO),sl'[j]?=some (some (.bor o))->∃ o',sl[j]?=some (some (.bor o'))
section
variable {K:PySem.W.Frag} {C:Addr} {n:Nat} {G G' G2:Hp} {so:So} {σ σ' σ2:L2.St} {H H' H2:Hp} {sl sl' sl2:DSt} {us:List V} {acc:List D}
theorem CR.refl:CR C so G σ H sl G σ H sl:=⟨Ex.refl _,fun _ _ _ e _=>e,fun _ _ g _ _=>g,fun _ z=>z,fun _ o e=>⟨o,e⟩⟩
theorem CR.trans (hC:G' C=none->G2 C=none) (a:CR C so G σ H sl G' σ' H' sl') (b:CR C so G' σ' H' sl' G2 σ2 H2 sl2):CR C so G σ H sl G2 σ2 H2 sl2 where
  ex:=a.ex.trans b.ex
  keep:=fun x o nx e s=>b.keep x o nx (a.keep x o nx e s) s
  frm:=fun x n1 g1 s w=>by
    have g':=a.frm x n1 g1 s w
    by_cases z:x=C
    · subst z;exact hC g'
    · obtain ⟨o,e⟩:=Option.ne_none_iff_exists'.mp n1
      exact b.frm x (by rw [a.keep x o z e s];simp) g' s fun q=>w (a.sub x q)
  sub:=fun x z=>a.sub x (b.sub x z)
  bs:=fun j o e=>let ⟨o1,e1⟩:=b.bs j o e;a.bs j o1 e1
theorem CR.wipe (vs:List Nat):CR C so G σ H sl G (L2.wipe σ vs) H (wipeD sl vs):=⟨Ex.refl _,fun _ _ _ e _=>e,fun _ _ g _ _=>g,fun _ z=>abd z,fun _ o e=>⟨o,(aaq e).1⟩⟩
theorem CSt.wipe (c:CSt K C n G so σ H sl us acc) (vs:List Nat):CSt K C n G so (L2.wipe σ vs) H (wipeD sl vs) us acc where
  rep:=c.rep.wipe vs
  hC:=c.hC
  gC:=c.gC
  nt:=c.nt
  no:=fun z=>c.no (abd z)
  al:=c.al
  nb:=fun j o e1 e2=>c.nb j o (aaq e1).1 (wipe_some e2).1
  ln:=(wipe_length σ vs).trans c.ln
end
section
variable {K:PySem.W.Frag} {n:Nat} {C:Addr}
end
section
variable {X:Cx} {W:WX} {elt tg iter:Expr} {ifs:List Expr} {scope:Scope} {own:List (Str × Nat)} {pos:Pos} {ti:TDI} {g':TG} {g:TDG} {tt:TDT} {te:TD} {ix:List Nat} {r:List ClX}
end
section
variable {X:Cx} {W:WX} {elt tg iter tg1 iter1 tg2 iter2:Expr} {ifs ifs1 ifs2:List Expr} {scope:Scope} {own:List (Str × Nat)} {pos:Pos} {ti ti1 ti2:TDI} {g' g1' g2':TG} {g g1 g2:TDG} {tt tt1 tt2:TDT} {te:TD} {ix ix1 ix2:List Nat}
end
section
variable {X:Cx} {W:WX} {a b:Expr} {ta tb:TD} {i j:Nat} {x y:Str} {pos:Pos}
end
section
variable {prog:Program} {w:World} {A:Around} {R:Result->Shared->Prop} {s:Shared} {elt t i:Expr} {ifs:List Expr} {gens:List Comprehension} {scope:Scope} {pos:Pos} {it acc:Value} {env:Env} {d:Nat}
end
section
variable {Y:Cx} {elt:Expr} {gens:List Comprehension} {scope:Scope} {pos:Pos} {acc:Value}
end
section
variable {X:Cx}
end
end DL
namespace DL
open PySem PySem.Spec PyProof.Rows L2 PySem.W
section
variable {X:Cx}
end
end DL
namespace DL
open PySem PySem.Spec PyProof.Rows L2
abbrev SG:=Hp->HO->List D->Prop
structure CG (S:SG) (K:PySem.W.Frag) (C:Addr) (n:Nat) (G:Hp) (so:So) (σ:L2.St) (H:Hp) (sl:DSt) (acc:List D):Prop where
  rep:Rep K G so σ H sl
  ho:∃ o,H C=some o/\S G o acc
  gC:G C=none
  nt:so.Nt C
  no:¬ Own sl σ C
  nb:∀ (j:Nat) (o:OO),sl[j]?=some (some (.bor o))->σ[j]?=some (some (.ref C))->False
  ln:σ.length=n
section
variable {S:SG} {K:PySem.W.Frag} {C:Addr} {n:Nat} {G G' G2:Hp} {so:So} {σ σ' σ2:L2.St} {H H' H2:Hp} {sl sl' sl2:DSt} {us:List V} {acc:List D}
theorem CG.wipe (c:CG S K C n G so σ H sl acc) (vs:List Nat):CG S K C n G so (L2.wipe σ vs) H (wipeD sl vs) acc where
  rep:=c.rep.wipe vs
  ho:=c.ho
  gC:=c.gC
  nt:=c.nt
  no:=fun z=>c.no (abd z)
  nb:=fun j o e1 e2=>c.nb j o (aaq e1).1 (wipe_some e2).1
  ln:=(wipe_length σ vs).trans c.ln
end
section
variable {K:PySem.W.Frag} {n:Nat} {C:Addr}
end
section
variable {X:Cx} {W:WX} {elt tg iter:Expr} {ifs:List Expr} {scope:Scope} {own:List (Str × Nat)} {p pos cpos:Pos} {ti:TDI} {g':TG} {g:TDG} {tt:TDT} {te:TD} {ix:List Nat} {r:List ClX}
end
end DL
namespace DL
open PySem PySem.Spec PySem.Calls PyProof.Rows L2 PySem.W
section
variable {prog:Program} {w:World} {A:Around} {E:Value->Shared->Prop} {s:Shared}
end
section
variable {X:Cx} {e1 e2:Expr} {p2 pos:Pos} {k:Nat} {t:TGs}
end
section
variable {X:Cx} {W:WX} {e:Expr} {te:TD} {i j:Nat} {x y:Str} {pos:Pos}
end
end DL
namespace DL
open PySem PySem.Spec PyProof.Rows L2
def ZSt (S z TI TO i1 i2 l1 l2:Addr) (xs ys:Array Value) (i:Nat) (h:Heap):Prop:=
  IsPair h TI (.ref i1) (.ref i2)/\h.IsListIter i1 l1 i/\h.IsListIter i2 l2 i/\h.IsList l1 xs/\h.IsList l2 ys/\
    ((IsZip h z TI TO .none/\∃ a b,IsPair h TO a b)\/∃ T f oT,IsZipHeld h z TI TO T f/\h.get? T=some oT/\T≠z/\T≠i1/\T≠i2/\T≠S)
theorem ZSt.keep {S z TI TO i1 i2 l1 l2:Addr} {xs ys:Array Value} {i:Nat} {h h':Heap} (st:ZSt S z TI TO i1 i2 l1 l2 xs ys i h) (off:S∉[z,TI,TO,i1,i2,l1,l2]) (k:∀ b o,b≠S->h.get? b=some o->h'.get? b=some o):ZSt S z TI TO i1 i2 l1 l2 xs ys i h':=by
  simp only [List.mem_cons,List.not_mem_nil,or_false,not_or] at off
  obtain ⟨dz,dTI,dTO,di1,di2,dl1,dl2⟩:=off
  obtain ⟨hTI,h1,h2,hl1,hl2,hz⟩:=st
  refine ⟨k _ _ (Ne.symm dTI) hTI,h1.at fun o e=>k _ o (Ne.symm di1) e,h2.at fun o e=>k _ o (Ne.symm di2) e,hl1.at fun o e=>k _ o (Ne.symm dl1) e,hl2.at fun o e=>k _ o (Ne.symm dl2) e,?_⟩
  rcases hz with ⟨hz,a,b,hTO⟩ | ⟨T,f,oT,hz,hT,r1,r2,r3,r4⟩
  · exact .inl ⟨k _ _ (Ne.symm dz) hz,a,b,k _ _ (Ne.symm dTO) hTO⟩
  · exact .inr ⟨T,f,oT,k _ _ (Ne.symm dz) hz,k _ _ r4 hT,r1,r2,r3,r4⟩
section
variable {prog:Program} {w:World} {A:Around} {E:Value->Shared->Prop} {S z TI TO i1 i2 l1 l2:Addr} {xs ys:Array Value} {R:Result->Shared->Prop}
end
section
variable {X:Cx} {pins:List (Addr × Obj)} {σ:L2.St} {H:Hp} {s:Shared}
end
section
variable {X:Cx} {W:WX}
end
section
variable {X:Cx} {W:WX} {o key value:Expr} {tk te:TD} {pos pos':Pos} {i:Nat}
end
section
variable {X:Cx} {W:WX} {elt tg iter tg1 iter1:Expr} {ifs ifs1:List Expr} {scope:Scope} {own:List (Str × Nat)} {p pos cpos:Pos} {ti ti1:TDI} {g' g1':TG} {g g1:TDG} {tt tt1:TDT} {te:TD} {ix ix1:List Nat}
end
section
variable {X:Cx} {W:WX} {pos:Pos} {i j l:Nat} {x y z:Str} {a b c:Expr} {ta:TDA}
end
section
variable {X:Cx} {x:Str} {kvs:List (Str × Str)}
end
section
variable {prog:Program} {w:World} {K:Type} [DecidableEq K] {knd:KeyKind prog w K} {A:Around} {E:Value->Shared->Prop} {s:Shared}
end
section
variable {K:PySem.W.Frag} {G G1:Hp} {so:So} {σ:L2.St} {H H1:Hp} {sl s1:DSt} {p:Addr} {o:HO}
end
section
variable {X:Cx} {W:WX} {kx vx tg iter:Expr} {ifs:List Expr} {scope:Scope} {own:List (Str × Nat)} {pos:Pos} {ti:TDI} {g:TDG} {tt:TDT} {tk tv:TD} {ix:List Nat}
end
section
variable {X:Cx} {pins:List (Addr × Obj)} {σ:L2.St} {H:Hp} {s:Shared}
end
end DL
set_option maxHeartbeats 2000000
namespace DL
open PySem PySem.Spec PyProof.Rows L2
end DL
set_option maxHeartbeats 4000000
namespace DL
open PySem PySem.Spec PyProof.Rows L2
section
variable {X:Cx} {W:WX} {e:Expr} {te:TD} {i j:Nat} {x y:Str} {pos:Pos}
end
abbrev SpM:=List DV->List (Str × D)->(DV->List (Str × D)->Prop)->(Value->List (Str × D)->List (Str × D)->Prop)->Prop
def noMu:DSt->Bool
  | []=>true
  | some (.mu _ _ _)::_=>false
  | some (.gh _ _)::_=>false
  | _::r=>noMu r
theorem afH:∀ {sl:DSt} {j:Nat} {y D:Addr} {gs:List (Str × DL.D)},noMu sl=true->sl[j]?≠some (some (.mu y D gs))
  | [],j,_,_,_,_,e=>by simp at e
  | z::r,0,y,D,gs,h,e=>by
    simp at e;subst e;cases h
  | z::r,j + 1,y,D,gs,h,e=>by
    refine afH (sl:=r) ?_ (by simpa using e)
    unfold noMu at h
    split at h
    · rename_i q;cases q
    · cases h
    · cases h
    · rename_i q;cases q;exact h
theorem afn:∀ {sl:DSt} {j:Nat} {y:Addr} {g:GR},noMu sl=true->sl[j]?≠some (some (.gh y g))
  | [],j,_,_,_,e=>by simp at e
  | z::r,0,y,g,h,e=>by
    simp at e;subst e;cases h
  | z::r,j + 1,y,g,h,e=>by
    refine afn (sl:=r) ?_ (by simpa using e)
    unfold noMu at h
    split at h
    · rename_i q;cases q
    · cases h
    · cases h
    · rename_i q;cases q;exact h
section
variable {K:PySem.W.Frag} {G G' H H':Hp} {so:So} {x C:Addr} {v:V} {dv:DV} {fs fs':List (Str × D)}
def MuOk (K:PySem.W.Frag) (G H:Hp) (x C:Addr) (fs:List (Str × D)):Prop:=∃ dx vs,H x=some (.ins C dx vs)/\FAll K G vs fs
abbrev soM (so:So) (x C:Addr):So:=(x,Kd.mt C)::so.drop
structure PostMH (K:PySem.W.Frag) (G:Hp) (so:So) (H:Hp) (x C:Addr) (H' G':Hp) (fs':List (Str × D)):Prop where
  ex:Ex G G'
  hrep:HRep K G' (soM so x C) H'
  keep:∀ a o,H a=some o->so.drop.Nt a->a≠x->H' a=some o
  frm:∀ a,H a≠none->G a=none->so.drop.Nt a->a≠x->G' a=none
  self:MuOk K G' H' x C fs'
structure PostM (K:PySem.W.Frag) (G:Hp) (so:So) (H:Hp) (x C:Addr) (v:V) (H' G':Hp) (dv:DV) (fs':List (Str × D)):Prop extends PostMH K G so H x C H' G' fs' where
  val:VOk K G' (soM so x C) H' v dv
  new:∀ a o,dv=.own o->v=.ref a->H a=none
  nob:∀ o,dv≠.bor o
  ns:∀ o,dv≠.see o
def upM (K:PySem.W.Frag) (C:Addr) (sp:SpM):Sp:=fun vs H Q E=>∃ G so x vs' fs args QD ED,vs=.ref x::vs'/\HRep K G (soM so x C) H/\so.drop.Nt x/\MuOk K G H x C fs/\VsOk K G (soM so x C) H vs' args/\sp args fs QD ED/\
  (∀ v H' G' dv fs',PostM K G so H x C v H' G' dv fs'->QD dv fs'->Q v H')/\(∀ cls d H' G' efs fs',PostMH K G so H x C H' G' fs'->XdOk K G' H' d efs->ED cls efs fs'->E cls d H')
end
section
variable {K:PySem.W.Frag} {W:WX} {G G' H H':Hp} {so:So} {σ:L2.St} {sl:DSt} {x C:Addr} {v:V} {dv:DV} {fs fs':List (Str × D)} {i:Nat}
end
section
variable {X:Cx} {W:WX} {k n:Nat} {f C:Addr} {fd:FuncData} {ps ks:List Str} {sp:SpM} {sel:List Sel} {m nm:Str} {p pos apos kpos:Pos} {o e:Expr} {es:List Expr} {ta:TDA} {te:TD} {pl:Sem Bool} {i:Nat}
end
section
variable {X:Cx} {W:WX} {k n:Nat} {f C:Addr} {fd:FuncData} {ps ks:List Str} {sp:SpI} {sel:List Sel} {x nm:Str} {p pos kpos:Pos} {e:Expr} {es:List Expr} {kws:List Keyword} {ta tk tk':TDA} {te:TD}
end
section
variable {X:Cx} {W:WX} {k n:Nat} {f C:Addr} {fd:FuncData} {ps ks:List Str} {sp:SpM} {sel:List Sel} {m nm:Str} {p pos apos kpos:Pos} {o e:Expr} {es:List Expr} {ta:TDA} {te:TD} {pl:Sem Bool} {i:Nat}
end
section
variable {X:Cx} {W:WX} {x:Str} {c:Value} {body suite:List Stmt} {b0:Stmt} {np pos pos':Pos} {t u:TDS}
end
section
variable {X:Cx} {W:WX} {elt tg iter:Expr} {ifs:List Expr} {scope:Scope} {own:List (Str × Nat)} {pos spos:Pos} {ti:TDI} {g:TDG} {tt:TDT} {te:TD} {ix:List Nat}
end
section
variable {X:Cx} {W:WX} {k n:Nat} {f C r:Addr} {fd:FuncData} {ps ks:List Str} {sp:SpD} {sel:List Sel} {m nm:Str} {p pos apos kpos:Pos} {o e:Expr} {es:List Expr} {kws:List Keyword} {ta tk':TDA} {pl:Sem Bool}
end
end DL
set_option maxHeartbeats 2000000
namespace DL
open PySem PySem.Spec PyProof.Rows L2
section
variable {X:Cx} {pins:List (Addr × Obj)} {σ:L2.St} {H HZ:Hp} {s s1:Shared} {params:Arguments} {xs:List Str} {vs:List Nat}
end
section
variable {X:Cx} {W:WX} {K:PySem.W.Frag} {cs:List Value} {x a:Str} {g c:Addr} {fdg:FuncData} {qg:Str} {pg:Arguments} {bg:List Stmt} {sg:Scope} {Ng xs:List Str} {params:Arguments} {body:Expr} {scope:Scope} {te:TD} {k:Nat} {p lpos pos:Pos} {vs:List Nat}
end
section
variable {X:Cx} {W:WX} {k n:Nat} {f C r:Addr} {fd:FuncData} {ps ks:List Str} {sp:SpD} {sel:List Sel} {m nm:Str} {p pos apos kpos:Pos} {o e:Expr} {es:List Expr} {kws:List Keyword} {ta tk':TDA} {pl:Sem Bool}
end
end DL
set_option maxHeartbeats 4000000
namespace DL
open PySem PySem.Spec PyProof.Rows L2
section
variable {X:Cx} {W:WX} {g0:Stmt} {gs:List Stmt} {tv tu:TS} {pins:List (Addr × Obj)} {D:L2.Ends}
end
section
variable {K:PySem.W.Frag} {W:WX} {G G1 H H1:Hp} {so:So} {σ σ1:L2.St} {sl s1:DSt} {d:Option Addr} {fs:List (Str × D)}
end
section
variable {X:Cx} {W:WX} {body gs:List Stmt} {g0:Stmt} {pos:Pos} {t u:TDS}
end
section
variable {K:PySem.W.Frag} {W:WX} {G G' H H':Hp} {so:So} {σ σ':L2.St} {sl sl':DSt} {x C:Addr} {fs:List (Str × D)} {i:Nat}
end
section
variable {X:Cx} {W:WX} {rest:List Stmt} {u:TDS} {C:Addr} {i:Nat}
end
structure FnVM (P:Program) (w:World) (K:PySem.W.Frag) (mg:Str->Option Value) (base:Heap) (k:Nat) (f C:Addr) (sp:SpM):Prop where
  run:∀ (A:Around) (outer:List Env) (s:Shared) (H:Hp) (us:List Value) (vs:List V) (Q:VK) (E:XK),Room k A->A.guards=some []->Env0 P w K mg base A outer s H->Vals vs us->upM K C sp vs H Q E->
    codeAny (model P w) A (.call (.ref f) ⟨us,[]⟩) (L2.CR (L2N.CX P w) outer P w H s Q E) s
theorem FnVM.mono {P:Program} {w:World} {K:PySem.W.Frag} {mg:Str->Option Value} {base:Heap} {j k:Nat} {f C:Addr} {sp:SpM} (F:FnVM P w K mg base j f C sp) (h:j<=k):FnVM P w K mg base k f C sp:=
  ⟨fun A outer s H us vs Q E hr=>F.run A outer s H us vs Q E (hr.mono h)⟩
section
variable {X:Cx} {W:WX} {k:Nat} {f C:Addr} {sp:SpM} {m:Str} {apos pos:Pos} {o e:Expr} {es:List Expr} {ta:TDA} {pl:Sem Bool} {i:Nat}
end
section
variable {K:PySem.W.Frag} {G H:Hp} {so:So} {σ:L2.St} {sl:DSt} {x C:Addr} {fs:List (Str × D)} {i:Nat}
end
section
variable {X:Cx} {W:WX} {k n:Nat} {f C g:Addr} {fd:FuncData} {ps ks:List Str} {sp:SpD} {sel:List Sel} {m nm:Str} {p pos apos kpos:Pos} {o e:Expr} {es:List Expr} {kws:List Keyword} {ta tk':TDA} {te:TD} {pl:Sem Bool} {i:Nat}
end
section
variable {X:Cx} {W:WX} {x:Str} {kvs:List (Str × Int)} {o b c:Expr} {tb tc:TD} {apos cpos:Pos}
end
section
variable {X:Cx} {W:WX} {k n:Nat} {f:Addr} {fd:FuncData} {ps:List Str} {sp:SpD} {sel:List Sel} {x:Str} {p pos:Pos} {a0:Expr} {es:List Expr} {ta:TDA} {i:Nat}
end
section
variable {X:Cx} {W:WX} {k n:Nat} {f g C:Addr} {fd:FuncData} {ps ks:List Str} {sp:SpD} {sel:List Sel} {m nm:Str} {p pos apos kpos:Pos} {o e:Expr} {es:List Expr} {ta:TDA} {to te:TD} {pl:Sem Bool}
end
section
variable {C:Addr} {sp:SpD}
end
end DL
set_option maxHeartbeats 2000000
namespace DL
open PySem PySem.Spec PyProof.Rows L2
section
variable {K:PySem.W.Frag} {W:WX} {G G1 H H1:Hp} {so:So} {σ σ1:L2.St} {sl s1:DSt} {x C:Addr} {fs:List (Str × D)} {i:Nat}
end
section
variable {X:Cx} {W:WX} {st:Stmt} {rest:List Stmt} {t u:TDS} {i:Nat}
end
section
variable {M:Model} {A:Around} {E:Value->Shared->Prop} {env:Env} {Q:Flow->Shared->Prop}
end
section
variable {K:PySem.W.Frag} {G H:Hp} {so:So} {σ:L2.St} {sl:DSt} {x C:Addr} {fs:List (Str × D)} {i:Nat}
end
section
variable {X:Cx} {W:WX} {sts:List Stmt} {u t:TDS} {C:Addr} {i n:Nat}
end
section
variable {C:Addr} {sp:SpD}
end
section
variable {X:Cx} {W:WX} {k n:Nat} {f C:Addr} {fd:FuncData} {ps ks:List Str} {sp:SpI} {sel:List Sel} {x nm:Str} {p pos kpos:Pos} {e:Expr} {es:List Expr} {kws:List Keyword} {ta tk tk':TDA} {te:TD}
end
section
variable {X:Cx} {W:WX} {k n:Nat} {f g C:Addr} {fd:FuncData} {ps ks:List Str} {sp:SpD} {sel:List Sel} {m nm:Str} {p pos apos kpos:Pos} {o e:Expr} {es:List Expr} {kws:List Keyword} {ta tk':TDA} {to te:TD} {pl:Sem Bool}
end
section
variable {X:Cx} {W:WX} {k n:Nat} {f C:Addr} {fd:FuncData} {ps:List Str} {sp:SpM} {sel:List Sel} {x:Str} {p pos:Pos} {a0:Expr} {es:List Expr} {ta:TDA} {i:Nat}
end
end DL
set_option maxHeartbeats 4000000
namespace DL
open PySem PySem.Spec PyProof.Rows L2
section
variable {X:Cx} {W:WX} {rest:List Stmt} {t:TDS} {i:Nat}
end
section
variable {K:PySem.W.Frag} {G:Hp} {so:So} {σ σ1:L2.St} {H H1:Hp} {sl s1:DSt} {v:V} {y:D} {i:Nat}
end
section
variable {X:Cx} {W:WX} {a b c d:Expr} {ta:TD} {tl:TDA} {i j l m:Nat} {x y z w:Str} {pos:Pos}
end
end DL
namespace DL
section
open PySem PySem.SeqAt GQ
open AutoSeq1 (wpAny_loadPart')
open MeetsSeq MeetsSeq2 MeetsSeq3 SeqRoads2
variable {prog:Program} {w:World} {A:Around} {R:Result->Shared->Prop} {E:Value->Shared->Prop}
end
open PySem PySem.Spec PyProof.Rows L2
section
variable {X:Cx}
end
end DL
set_option maxHeartbeats 2000000
namespace DP
open PySem PySem.W PySem.Calls PyProof.Rows PyProof.V PySem.Spec
section
variable {prog:Program} {w:World} {KT:Type} [DecidableEq KT] {knd:KeyKind prog w KT} {A:Around} {E:Value->Shared->Prop} {s:Shared}
end
section
open PySem.SeqAt MeetsSeq MeetsSeq2 MeetsSeq3 SeqRoads2
open AutoSeq1 (wpAny_loadPart')
variable {prog:Program} {w:World} {A:Around} {R:Result->Shared->Prop} {E:Value->Shared->Prop}
end
end DP
namespace DL
open PySem PySem.Spec PyProof.Rows L2
section
variable {X:Cx} {k:Nat} {f C:Addr} {fd:FuncData} {ps:List Str} {sp:SpD}
end
mutual
inductive NT where
  | leaf (d:D)
  | node (a:Addr) (xs:List NT)
end
mutual
def NT.as:NT->List Addr
  | .leaf _=>[]
  | .node a xs=>a::NT.asL xs
def NT.asL:List NT->List Addr
  | []=>[]
  | x::r=>NT.as x++NT.asL r
end
mutual
inductive NOk (K:PySem.W.Frag) (G H:Hp):V->NT->Prop
  | leaf {v:V} {d:D}:DOk K G v d->NOk K G H v (.leaf d)
  | node {a:Addr} {vs:List V} {xs:List NT}:H a=some (.lst vs)->NAll K G H vs xs->NOk K G H (.ref a) (.node a xs)
inductive NAll (K:PySem.W.Frag) (G H:Hp):List V->List NT->Prop
  | nil:NAll K G H [] []
  | cons {v:V} {x:NT} {vs:List V} {xs:List NT}:NOk K G H v x->NAll K G H vs xs->NAll K G H (v::vs) (x::xs)
end
section
variable {K:PySem.W.Frag} {G G' H H':Hp}
mutual
theorem NOk.keep (e:Ex G G'):∀ {v:V} {t:NT},(∀ a∈t.as,H' a=H a)->NOk K G H v t->NOk K G' H' v t
  | _,.leaf _,_,.leaf h=>.leaf (h.mono e)
  | .ref a,.node _ _,k,.node h r=>.node (by rw [k a (by rw [NT.as];exact List.mem_cons_self ..)];exact h) (NAll.keep e (fun b hb=>k b (by rw [NT.as];exact List.mem_cons_of_mem _ hb)) r)
theorem NAll.keep (e:Ex G G'):∀ {vs:List V} {ts:List NT},(∀ a∈NT.asL ts,H' a=H a)->NAll K G H vs ts->NAll K G' H' vs ts
  | _,_,_,.nil=>.nil
  | _,_,k,.cons h r=>.cons (NOk.keep e (fun b hb=>k b (by rw [NT.asL];exact List.mem_append_left _ hb)) h) (NAll.keep e (fun b hb=>k b (by rw [NT.asL];exact List.mem_append_right _ hb)) r)
end
mutual
theorem NOk.lst:∀ {v:V} {t:NT},NOk K G H v t->∀ a∈t.as,∃ vs,H a=some (.lst vs)
  | _,_,.leaf _,a,m=>by rw [NT.as] at m;cases m
  | _,_,.node h r,b,m=>by
    rw [NT.as] at m
    rcases List.mem_cons.mp m with m | m
    · subst m;exact ⟨_,h⟩
    · exact NAll.lst r b m
theorem NAll.lst:∀ {vs:List V} {ts:List NT},NAll K G H vs ts->∀ a∈NT.asL ts,∃ vs,H a=some (.lst vs)
  | _,_,.nil,a,m=>by rw [NT.asL] at m;cases m
  | _,_,.cons h r,b,m=>by
    rw [NT.asL] at m
    rcases List.mem_append.mp m with m | m
    · exact NOk.lst h b m
    · exact NAll.lst r b m
end
end
def nestG (x:Addr) (t:NT):GR:=⟨t.as,fun K G H=>NOk K G H (.ref x) t/\t.as.Nodup,fun K G G' H H' e k h=>⟨h.1.keep e k,h.2⟩,fun _=>0⟩
section
variable {K:PySem.W.Frag} {G G1 H H1:Hp} {as:List Addr}
end
section
variable {K:PySem.W.Frag} {W:WX} {G G1 H H1:Hp} {so:So} {σ σ1:L2.St} {sl s1:DSt} {x:Addr} {t:NT} {i:Nat}
end
section
variable {K:PySem.W.Frag} {W:WX} {G H:Hp} {so:So} {σ:L2.St} {sl:DSt} {x:Addr} {t:NT} {i:Nat} {X:Cx} {e:Expr} {te:TD} {tt:TDT}
end
end DL
set_option maxHeartbeats 4000000
namespace DL
open PySem PySem.Spec PyProof.Rows L2
abbrev nRow (p:Addr × List D):NT:=.node p.1 (p.2.map .leaf)
section
variable {K:PySem.W.Frag} {G G' H H':Hp}
theorem NAll.leaves:∀ {vs:List V} {ds:List D},DAll K G vs ds->NAll K G H vs (ds.map .leaf)
  | _,_,.nil=>.nil
  | _,_,.cons h t=>.cons (.leaf h) (NAll.leaves t)
theorem adL:∀ (ds:List D),NT.asL (ds.map .leaf)=[]
  | []=>by rw [List.map_nil,NT.asL]
  | d::r=>by rw [List.map_cons,NT.asL,NT.as,adL r];rfl
theorem adC:∀ (ps:List (Addr × List D)),NT.asL (ps.map nRow)=ps.map (·.1)
  | []=>by rw [List.map_nil,NT.asL];rfl
  | p::r=>by rw [List.map_cons,NT.asL,NT.as,adL,adC r];rfl
end
structure NstOk (K:PySem.W.Frag) (G H:Hp) (so:So) (sl0 sl:DSt) (σ:L2.St) (H1:Hp) (C:Addr) (us:List V) (ps:List (Addr × List D)):Prop where
  ok:NAll K G H us (ps.map nRow)
  own:∀ p∈ps,so.Nt p.1/\G p.1=none/\p.1≠C/\¬ Own sl σ p.1
  new:∀ p∈ps,H1 p.1=none\/Own sl0 σ p.1
  nd:(ps.map (·.1)).Nodup
section
variable {K:PySem.W.Frag} {G G' H H' H1:Hp} {so:So} {sl0 sl sl':DSt} {σ:L2.St} {C:Addr} {us:List V} {ps:List (Addr × List D)}
theorem NstOk.there (h:NstOk K G H so sl0 sl σ H1 C us ps) (p:Addr × List D) (hp:p∈ps):H p.1≠none:=by
  obtain ⟨vs,q⟩:=NAll.lst h.ok p.1 (by rw [adC];exact List.mem_map_of_mem hp)
  rw [q];simp
theorem NstOk.step (h:NstOk K G H so sl0 sl σ H1 C us ps) (e:Ex G G') (k:∀ a o,H a=some o->so.Nt a->H' a=some o) (f:∀ a,H a≠none->G a=none->so.Nt a->¬ Own sl σ a->G' a=none) (s:∀ a,Own sl' σ a->Own sl σ a):NstOk K G' H' so sl0 sl' σ H1 C us ps:=
  ⟨h.ok.keep e (fun a m=>by
    rw [adC] at m
    obtain ⟨p,hp,rfl⟩:=List.mem_map.mp m
    exact abF k (h.there p hp) (h.own p hp).1),fun p hp=>by
    obtain ⟨m1,m2,m3,m4⟩:=h.own p hp
    exact ⟨m1,f _ (h.there p hp) m2 m1 m4,m3,fun z=>m4 (s _ z)⟩,h.new,h.nd⟩
end
section
variable {W:WX} {vs0:List Nat} {ti:TDI} {g:TDG} {tt:TDT} {te:TD} {ix:List Nat}
end
abbrev nT (C:Addr) (ps:List (Addr × List D)):NT:=.node C (ps.map nRow)
abbrev nestD (C:Addr) (ps:List (Addr × List D)):DV:=.gh C (nestG C (nT C ps))
theorem agv (C:Addr) (ps:List (Addr × List D)):(nT C ps).as=C::ps.map (·.1):=by rw [NT.as,adC]
section
variable {K:PySem.W.Frag} {W:WX} {G G1 H H1:Hp} {so:So} {σ σ1:L2.St} {sl s1:DSt} {as:List Addr} {i:Nat} {C:Addr} {ps:List (Addr × List D)} {t:NT}
end
section
variable {X:Cx} {W:WX} {elt tg iter:Expr} {ifs:List Expr} {scope:Scope} {own:List (Str × Nat)} {pos spos:Pos} {ti:TDI} {g:TDG} {tt:TDT} {te:TD} {ix:List Nat} {rest:List Stmt} {u t:TDS} {n:Nat}
end
section
variable {K:PySem.W.Frag} {W:WX} {G G1 H H1:Hp} {so:So} {σ σ1:L2.St} {sl s1:DSt} {i:Nat} {C:Addr} {y:V} {d:D}
theorem NAll.unleaf:∀ {vs:List V} {ds:List D},NAll K G H vs (ds.map .leaf)->DAll K G vs ds
  | _,[],h=>by cases h;exact .nil
  | _,e::r,h=>by
    cases h with
    | cons h t=>
      cases h with
      | leaf h=>exact .cons h (NAll.unleaf t)
theorem NAll.setRow:∀ {us:List V} {ps:List (Addr × List D)} {j k:Nat} {p:Addr × List D} {vs:List V},NAll K G H us (ps.map nRow)->(ps.map (·.1)).Nodup->ps[j]?=some p->H p.1=some (.lst vs)->DOk K G y d->NAll K G (upd H p.1 (.lst (vs.set k y))) us ((ps.set j (p.1,p.2.set k d)).map nRow)
  | _,[],_,_,_,_,_,_,e,_,_=>by simp at e
  | _,q::r,0,k,p,vs,h,nd,e,hp,w=>by
    simp at e;subst e
    cases h with
    | cons h t=>
      cases h with
      | node h l=>
        rw [hp] at h;cases h
        refine .cons (.node upd_same (NAll.leaves (DAll.set w k (NAll.unleaf l)))) (NAll.keep (Ex.refl G) (fun b m=>upd_ne fun z=>?_) t)
        rw [adC] at m
        rw [List.map_cons,List.nodup_cons] at nd
        exact nd.1 (z ▸ m)
  | _,q::r,j + 1,k,p,vs,h,nd,e,hp,w=>by
    have e':r[j]?=some p:=by simpa using e
    have ne:q.1≠p.1:=fun z=>by
      rw [List.map_cons,List.nodup_cons] at nd
      exact nd.1 (z ▸ List.mem_map_of_mem (List.mem_of_getElem? e'))
    cases h with
    | cons h t=>
      refine .cons ?_ (NAll.setRow t (List.nodup_cons.mp nd).2 e' hp w)
      refine NOk.keep (Ex.refl G) (fun b m=>upd_ne fun z=>?_) h
      rw [NT.as,adL] at m
      exact ne ((List.mem_singleton.mp m).symm.trans z)
theorem aga:∀ {ps:List (Addr × List D)} {j:Nat} {p:Addr × List D} {es:List D},ps[j]?=some p->(ps.set j (p.1,es)).map (·.1)=ps.map (·.1)
  | [],_,_,_,e=>by simp at e
  | q::r,0,p,es,e=>by simp at e;subst e;rfl
  | q::r,j + 1,p,es,e=>by
    have z:=aga (ps:=r) (j:=j) (p:=p) (es:=es) (by simpa using e)
    show q.1::((r.set j (p.1,es)).map (·.1))=q.1::r.map (·.1)
    rw [z]
theorem slotNest {ps:List (Addr × List D)} (r:Rep K G so σ H sl) (e:sl[i]?=some (some (nestD C ps))):σ[i]?=some (some (.ref C))/\(∃ us,H C=some (.lst us)/\NAll K G H us (ps.map nRow))/\(∀ a∈(nT C ps).as,(a,Kd.mt 0)∈so/\H a≠none)/\C∉ps.map (·.1)/\(ps.map (·.1)).Nodup:=by
  obtain ⟨v,e1,rfl,mx,nk,nd⟩:=r.slots i _ e
  have nd:(nT C ps).as.Nodup:=nd
  rw [agv,List.nodup_cons] at nd
  have nk:NOk K G H (.ref C) (nT C ps):=nk
  cases nk with
  | node h l=>exact ⟨e1,⟨_,h,l⟩,mx,nd.1,nd.2⟩
theorem PostS.nest {ps:List (Addr × List D)} {p:Addr × List D} {vs:List V} {j k:Nat} (r:Rep K G so σ H sl) (e:sl[i]?=some (some (nestD C ps))) (nm:noMu (sl.set i none)=true) (ep:ps[j]?=some p) (hp:H p.1=some (.lst vs)) (w:DOk K G y d) :
    PostS K G so σ H sl σ (upd H p.1 (.lst (vs.set k y))) G (sl.set i (some (nestD C (ps.set j (p.1,p.2.set k d))))):=by
  obtain ⟨e1,⟨us,hC,al⟩,mx,cn,nd⟩:=slotNest r e
  have pm:p.1∈(nT C ps).as:=by rw [agv];exact List.mem_cons_of_mem _ (List.mem_map_of_mem (List.mem_of_getElem? ep))
  have ps0:(p.1,Kd.mt 0)∈so:=(mx _ pm).1
  have gp:G p.1=none:=(r.h.vol _ _ ps0).g
  have nC:C≠p.1:=fun z=>cn (z ▸ List.mem_map_of_mem (List.mem_of_getElem? ep))
  have nt:∀ a,so.Nt a->a≠p.1:=fun a s z=>s ⟨_,z ▸ ps0⟩
  have li:i < sl.length:=(List.getElem?_eq_some_iff.mp e).1
  have own:∀ a,Own (sl.set i (some (nestD C (ps.set j (p.1,p.2.set k d))))) σ a->Own sl σ a:=fun a ⟨m,o,f1,f2⟩=>by
    rcases get_set f1 with ⟨_,z⟩ | ⟨_,z⟩
    · cases z
    · exact ⟨m,o,z,f2⟩
  have eas:(nT C (ps.set j (p.1,p.2.set k d))).as=(nT C ps).as:=by rw [agv,agv,aga ep]
  refine ⟨Ex.refl G,⟨⟨fun a o q=>?_,fun a kd q=>?_,r.h.ok,afE r.h.tp (by intro _ z;cases z)⟩,by rw [List.length_set];exact r.len,fun m dv f=>?_,fun m n o o' b f1 f2 f3 f4=>?_,fun m o b f1 f2 z=>?_,fun m o f=>?_⟩,fun a o q s _=>by rw [upd_ne (nt a s)];exact q,fun a _ g _ _=>g,fun a _ _ z y=>z (own a y),rfl⟩
  · rw [upd_ne (ne_of_none q gp)];exact r.h.ex a o q
  · by_cases z:a=p.1
    · subst z
      cases r.h.ok.uq _ _ _ q ps0
      exact ⟨gp,.inr ⟨_,.inl upd_same⟩⟩
    · exact (r.h.vol a kd q).keep (Ex.refl G) (r.h.vol a kd q).g (upd_ne z)
  · rcases get_set f with ⟨rfl,z⟩ | ⟨nj,z⟩
    · cases z
      refine ⟨_,e1,rfl,fun a m=>?_,?_,?_⟩
      · have m:a∈(nT C ps).as:=eas ▸ m
        refine ⟨(mx a m).1,?_⟩
        by_cases z:a=p.1
        · subst z;rw [upd_same];simp
        · rw [upd_ne z];exact (mx a m).2
      · exact .node (by rw [upd_ne nC];exact hC) (NAll.setRow al nd ep hp w)
      · show (nT C (ps.set j (p.1,p.2.set k d))).as.Nodup
        rw [eas,agv];exact List.nodup_cons.mpr ⟨cn,nd⟩
    · obtain ⟨u,w1,w2⟩:=r.slots m dv z
      refine ⟨u,w1,?_⟩
      have q:∀ x,(sl.set i none)[m]?=some (some x) ↔ sl[m]?=some (some x):=fun x=>by rw [List.getElem?_set_ne (fun z=>nj z.symm)]
      cases dv with
      | d z=>exact w2
      | src=>exact w2
      | own o=>obtain ⟨b,q1,q2,q3,q4⟩:=w2;exact ⟨b,q1,q2,q3,q4.keep (Ex.refl G) (upd_ne (nt b q3))⟩
      | bor o=>obtain ⟨b,q1,q3,q4⟩:=w2;exact ⟨b,q1,q3,q4.keep (Ex.refl G) (upd_ne (nt b q3))⟩
      | see o=>exact absurd z (r.nse m o)
      | mu x D gs=>exact absurd ((q _).mpr z) (afH nm)
      | gh x g=>exact absurd ((q _).mpr z) (afn nm)
  · have g:∀ (m:Nat) (o3:OO),(sl.set i (some (nestD C (ps.set j (p.1,p.2.set k d)))))[m]?=some (some (.own o3))->sl[m]?=some (some (.own o3)):=fun m o3 em=>by
      rcases get_set em with ⟨_,q⟩ | ⟨_,q⟩
      · cases q
      · exact q
    exact r.sep m n o o' b (g _ _ f1) (g _ _ f2) f3 f4
  · rcases get_set f1 with ⟨_,q⟩ | ⟨_,q⟩
    · cases q
    · exact r.bor m o b q f2 (own _ z)
  · rcases get_set f with ⟨_,q⟩ | ⟨_,q⟩
    · cases q
    · exact r.nse m o q
end
section
variable {X:Cx} {W:WX} {o key1 key value:Expr} {tj tk te:TD} {pos pos' pos'':Pos} {i:Nat}
end
section
variable {X:Cx} {W:WX} {e:Expr} {te:TD} {tt:TDT}
end
def bad1 (e:Nat->Nat->D) (i j:Nat):Prop:=match ratOf (e i j) with
  | none=>True
  | some q=>q < 0\/(i=j/\q≠0)
def bad2 (n:Nat) (f:Nat->Nat->Rat) (i j:Nat):Prop:=∃ k,k < n/\f i k + f k j < f i j
def ahead (n i j i' j':Nat):Prop:=i' < n/\j' < n/\(i' < i\/(i'=i/\j' < j))
def FirstW (n:Nat) (e:Nat->Nat->D) (Q:D->Prop):Prop:=
  (∀ i j,i < n->j < n->bad1 e i j->(∀ i' j',ahead n i j i' j'->¬ bad1 e i' j')->Q (.tup [.int (i:Int),.int (j:Int)]))/\
  ((∀ i j,i < n->j < n->¬ bad1 e i j)->∀ f:Nat->Nat->Rat,(∀ i j,i < n->j < n->ratOf (e i j)=some (f i j))->
    (∀ i j,i < n->j < n->bad2 n f i j->(∀ i' j',ahead n i j i' j'->¬ bad2 n f i' j')->Q (.tup [.int (i:Int),.int (j:Int)]))/\((∀ i j,i < n->j < n->¬ bad2 n f i j)->Q .non))
theorem FirstW.mono {n:Nat} {e:Nat->Nat->D} {Q Q':D->Prop} (h:FirstW n e Q) (m:∀ d,Q d->Q' d):FirstW n e Q':=
  ⟨fun i j a b c d=>m _ (h.1 i j a b c d),fun a f b=>⟨fun i j c d x y=>m _ ((h.2 a f b).1 i j c d x y),fun c=>m _ ((h.2 a f b).2 c)⟩⟩
section
variable {P:Program} {w:World} {K:PySem.W.Frag} {mg:Str->Option Value} {base:Heap} {x qual:Str} {params:Arguments} {body:List Stmt} {scope:Scope} {dvs:List V} {kws:List (Str × V)} {fa:Addr} {fd:FuncData} {N:List Str} {k:Nat} {t:TDS}
end
section
variable {X:Cx} {W:WX} {k n:Nat} {f:Addr} {fd:FuncData} {ps ks:List Str} {sp:SpD} {sel:List Sel} {x nm:Str} {p pos kpos:Pos} {e:Expr} {es:List Expr} {kws:List Keyword} {ta tk tk':TDA} {te:TD}
end
section
variable {X:Cx} {W:WX} {k n:Nat} {f C:Addr} {fd:FuncData} {ps ks:List Str} {sp:SpD} {sel:List Sel} {m nm:Str} {p pos apos kpos:Pos} {o e:Expr} {es:List Expr} {kws:List Keyword} {ta tk tk':TDA} {to te:TD} {pl:Sem Bool}
end
section
variable {X:Cx} {W:WX} {k:Nat} {C p g:Addr} {f:Str} {fd:FuncData} {ps:List Str} {sp:SpD} {e:Expr} {te:TD} {pos:Pos}
end
section
variable {X:Cx} {W:WX} {k:Nat} {f:Addr} {fd:FuncData} {ps:List Str} {sp:SpD}
end
end DL
namespace PySem.W
open PySem PySem.Calls PyProof.Rows Builtin
section
variable {prog:Program} {w:World} {A:Around} {E:Value->Shared->Prop} {s:Shared} {K:Frag} {x C L f:Addr} {h₀:Heap} {m:Str->Option Value} {ox:Obj} {od:Option Obj} {name:Str}
end
end PySem.W
namespace DL
open PySem PySem.Spec PyProof.Rows L2
mutual
def dpI:D->Nat
  | .lst ds=>dpIs ds + 1
  | .tup ds=>dpIs ds + 1
  | .non=>0
  | .bl _=>0
  | .int _=>0
  | .str _=>0
  | .ins _ _=>0
  | .dk _=>0
  | .dt _=>0
  | .any=>0
  | .raw _=>0
  | .kt _=>0
def dpIs:List D->Nat
  | []=>0
  | d::r=>max (dpI d) (dpIs r)
end
mutual
def okI (C:Addr) (P:List (Str × D)->Prop):D->Prop
  | .non=>True
  | .bl _=>True
  | .str _=>True
  | .int i=>i.natAbs.log2 < 1920
  | .lst ds=>okIs C P ds
  | .tup ds=>okIs C P ds
  | .ins D fs=>D=C/\P fs
  | .dk _=>False
  | .dt _=>False
  | .any=>False
  | .raw _=>False
  | .kt _=>False
def okIs (C:Addr) (P:List (Str × D)->Prop):List D->Prop
  | []=>True
  | d::r=>okI C P d/\okIs C P r
end
section
variable {X:Cx} {pins:List (Addr × Obj)} {σ:L2.St} {G G' H:Hp} {s:Shared} {C:Addr} {P:List (Str × D)->Prop}
def GdOk (X:Cx) (C:Addr) (P:List (Str × D)->Prop) (G:Hp) (g:List Code) (n:Nat):Prop:=∀ (id:String) (v:Value) (rest:List Value) (kw:List (Str × Value)),Code.builtin id ⟨v::rest,kw⟩∈g->∃ a d,v=.ref a/\DOk X.K G (.ref a) d/\okI C P d/\n < dpI d
theorem GdOk.mono {g:List Code} {n m:Nat} (h:GdOk X C P G g n) (e:Ex G G') (l:m<=n):GdOk X C P G' g m:=fun id v rest kw q=>by
  obtain ⟨a,d,e1,e2,e3,e4⟩:=h id v rest kw q
  exact ⟨a,d,e1,e2.mono e,e3,by omega⟩
theorem GdOk.cons {g:List Code} {n m:Nat} {a:Addr} {d:D} {id:String} {rest:List Value} {kw:List (Str × Value)} (h:GdOk X C P G g n) (w:DOk X.K G (.ref a) d) (o:okI C P d) (l:m < dpI d) (l2:m<=n):GdOk X C P G (.builtin id ⟨.ref a::rest,kw⟩::g) m:=fun id' v rest' kw' q=>by
  rcases List.mem_cons.mp q with e | q
  · cases e
    exact ⟨a,d,rfl,w,o,l⟩
  · exact h.mono (Ex.refl G) l2 id' v rest' kw' q
end
theorem Room.shown {k:Nat} {A:Around} {c:Code} (r:Room (k + 1) A) (hw:c.weight<=1) (hu:(A.under c).units=A.units + 1):Room k (A.under c):=
  ⟨r.hd,by have:=r.dp;show A.depth + c.weight + 3 * k + 5 < _;omega,by have:=r.un;rw [hu];omega⟩
section
variable {X:Cx} {k:Nat} {C f:Addr} {fd:FuncData} {ps:List Str} {sp:SpD} {P:List (Str × D)->Prop} {rp:List (Str × D)->Str}
end
section
variable {X:Cx} {k:Nat} {C f:Addr} {fd:FuncData} {ps:List Str} {sp:SpD} {P:List (Str × D)->Prop} {rp:List (Str × D)->Str}
end
section
variable {g:TDG} {tt:TDT} {te:TD} {vs:List Nat} {Q:List (List D)->DSt->Prop}
end
section
variable {X:Cx} {o e:Expr} {es:List Expr} {to:TE} {t:TA} {name:Str} {apos cpos:Pos} {id:String} {r:V->List V->Hp->VK->Prop}
end
section
variable {K:PySem.W.Frag} {W:WX} {G G' H H':Hp} {so:So} {σ σ':L2.St} {sl sl':DSt} {x:Addr} {ds:List D} {i:Nat}
end
section
variable {X:Cx} {W:WX} {i:Nat} {e:Expr} {te:TD} {tt:TDT}
end
section
variable {X:Cx} {W:WX} {i:Nat} {st:Stmt} {t:TDS}
end
section
variable {X:Cx} {W:WX} {o e:Expr} {te:TD} {apos pos:Pos} {i:Nat}
end
end DL
namespace DL
open PySem PySem.Spec PyProof.Rows L2 PySem.W
section
variable {X:Cx} {W:WX} {k:Nat} {f C:Addr} {sp:SpD} {m:Str} {pos apos:Pos} {o:Expr} {to:TD} {pl:Sem Bool}
end
end DL
namespace DL
open PySem PySem.Spec PyProof.Rows L2
abbrev Ent:=Option Addr × List (List Key × D)
structure WSt where
  rk:D
  sp:List D
  es:List (Str × Ent)
def ownA:List (Str × Ent)->List Addr
  | []=>[]
  | (_,some t,_)::r=>t::ownA r
  | (_,none,_)::r=>ownA r
inductive EAll (K:PySem.W.Frag) (G H:Hp):List (Key × V)->List (Str × Ent)->Prop
  | nil:EAll K G H [] []
  | pub {l:Str} {v:V} {kvs:List (List Key × D)} {vs:List (Key × V)} {es:List (Str × Ent)}:DOk K G v (.dt kvs)->EAll K G H vs es->EAll K G H ((.inr l,v)::vs) ((l,none,kvs)::es)
  | own {l:Str} {t:Addr} {ws:List (List Key × V)} {kvs:List (List Key × D)} {vs:List (Key × V)} {es:List (Str × Ent)}:H t=some (.dT ws)->FAll K G ws kvs->EAll K G H vs es->EAll K G H ((.inr l,.ref t)::vs) ((l,some t,kvs)::es)
section
variable {K:PySem.W.Frag} {G G' H H':Hp}
theorem EAll.keep (e:Ex G G'):∀ {vs:List (Key × V)} {es:List (Str × Ent)},(∀ a∈ownA es,H' a=H a)->EAll K G H vs es->EAll K G' H' vs es
  | _,_,_,.nil=>.nil
  | _,_,k,.pub d r=>.pub (d.mono e) (EAll.keep e k r)
  | _,_,k,.own h f r=>.own (by rw [k _ (List.mem_cons_self ..)];exact h) (f.mono e) (EAll.keep e (fun a m=>k a (List.mem_cons_of_mem _ m)) r)
theorem EAll.there:∀ {vs:List (Key × V)} {es:List (Str × Ent)},EAll K G H vs es->∀ a∈ownA es,∃ ws,H a=some (.dT ws)
  | _,_,.nil,a,m=>by cases m
  | _,_,.pub _ r,a,m=>r.there a m
  | _,_,.own h _ r,a,m=>by
    rcases List.mem_cons.mp m with rfl | m
    · exact ⟨_,h⟩
    · exact r.there a m
theorem EAll.keys:∀ {vs:List (Key × V)} {es:List (Str × Ent)},EAll K G H vs es->(vs.map fun kv=>kV kv.1)=(es.map (·.1)).map V.str
  | _,_,.nil=>rfl
  | _,_,.pub _ r=>by rw [List.map_cons,List.map_cons,List.map_cons,r.keys];rfl
  | _,_,.own _ _ r=>by rw [List.map_cons,List.map_cons,List.map_cons,r.keys];rfl
end
section
variable {K:PySem.W.Frag} {G H:Hp}
end
section
variable {K:PySem.W.Frag} {W:WX} {G G1 H H1:Hp} {so:So} {σ σ1:L2.St} {sl s1:DSt} {i:Nat} {x a:Addr} {g g':GR} {o:HO}
variable {w tb CW:Addr} {st:WSt}
end
section
variable {X:Cx} {W:WX} {o key value:Expr} {tk te:TD} {pos pos' p:Pos} {i:Nat} {CW:Addr}
end
abbrev SpW:=List DV->WSt->(DV->WSt->Prop)->(Value->List (Str × D)->WSt->Prop)->Prop
section
variable {K:PySem.W.Frag} {G G' H H':Hp} {so:So} {as:List Addr} {kd:Addr->Addr} {v:V} {dv:DV}
inductive AsOk (K:PySem.W.Frag) (G:Hp) (so:So) (H:Hp):List V->List DV->Prop
  | nil:AsOk K G so H [] []
  | cons {v:V} {d:DV} {vs:List V} {ds:List DV}:VOk K G so H v d->(∀ o,d≠.own o)->AsOk K G so H vs ds->AsOk K G so H (v::vs) (d::ds)
  | gh {x:Addr} {r:GR} {vs:List V} {ds:List DV}:r.as=[]->r.R K G H->AsOk K G so H vs ds->AsOk K G so H (.ref x::vs) (.gh x r::ds)
theorem AsOk.length:∀ {vs:List V} {ds:List DV},AsOk K G so H vs ds->vs.length=ds.length
  | _,_,.nil=>rfl
  | _,_,.cons _ _ t=>congrArg (· + 1) t.length
  | _,_,.gh _ _ t=>congrArg (· + 1) t.length
theorem AsOk.get:∀ {vs:List V} {ds:List DV} {i:Nat} {d:DV},AsOk K G so H vs ds->ds[i]?=some d->∃ v,vs[i]?=some v/\SlOk K G so H v d/\∀ o,d≠.own o
  | _,_,_,_,.nil,e=>by simp at e
  | _,_,0,_,.cons h n _,e=>by simp at e;subst e;exact ⟨_,rfl,VOk.slot h,n⟩
  | _,_,i + 1,_,.cons _ _ t,e=>by
    obtain ⟨v,h1,h2⟩:=AsOk.get (i:=i) t (by simpa using e)
    exact ⟨v,by simpa using h1,h2⟩
  | _,_,0,_,.gh z h _,e=>by simp at e;subst e;exact ⟨_,rfl,⟨rfl,fun a m=>(by rw [z] at m;cases m),h⟩,fun _ y=>nomatch y⟩
  | _,_,i + 1,_,.gh _ _ t,e=>by
    obtain ⟨v,h1,h2⟩:=AsOk.get (i:=i) t (by simpa using e)
    exact ⟨v,by simpa using h1,h2⟩
end
section
variable {K:PySem.W.Frag} {W:WX} {G G' H H':Hp} {so:So} {σ:L2.St} {sl:DSt} {x w tb CW:Addr} {g g':GR} {v:V} {dv:DV} {st st':WSt} {i:Nat}
end
section
variable {X:Cx} {W:WX} {k n:Nat} {f CW:Addr} {fd:FuncData} {ps:List Str} {sp:SpW} {sel:List Sel} {m:Str} {pos apos:Pos} {o e:Expr} {es:List Expr} {ta:TDA} {pl:Sem Bool} {i:Nat}
end
end DL
namespace DL.DCT
open PySem PySem.Spec PyProof.Rows L2 DL
section
variable {prog:Program} {w:World} {A:Around} {R:Result->Shared->Prop} {s:Shared} {kx vx t i:Expr} {ifs:List Expr} {gens:List Comprehension} {scope:Scope} {pos:Pos} {it:Value} {D:Addr} {env:Env} {d:Nat}
end
section
variable {Y:Cx} {kx vx:Expr} {gens:List Comprehension} {scope:Scope} {pos:Pos} {D:Addr}
end
section
variable {X:Cx}
end
abbrev TA:=List (List Key × D)
abbrev DBody:=(TA->DSt->Prop)->TA->DSt->Prop
section
variable {body:DBody} {g:TDG} {tt:TDT} {vs:List Nat} {F:TA->DSt->Prop} {acc:TA} {sl:DSt}
end
structure CSt (K:PySem.W.Frag) (C:Addr) (n:Nat) (G:Hp) (so:So) (σ:L2.St) (H:Hp) (sl:DSt) (us:List (List Key × V)) (acc:TA):Prop where
  rep:Rep K G so σ H sl
  hC:H C=some (.dT us)
  gC:G C=none
  nt:so.Nt C
  no:¬ Own sl σ C
  al:FAll K G us acc
  nb:∀ (j:Nat) (o:OO),sl[j]?=some (some (.bor o))->σ[j]?=some (some (.ref C))->False
  ln:σ.length=n
section
variable {K:PySem.W.Frag} {C:Addr} {n:Nat} {G G' G2:Hp} {so:So} {σ σ' σ2:L2.St} {H H' H2:Hp} {sl sl' sl2:DSt} {us:List (List Key × V)} {acc:TA}
theorem CSt.wipe (c:CSt K C n G so σ H sl us acc) (vs:List Nat):CSt K C n G so (L2.wipe σ vs) H (wipeD sl vs) us acc where
  rep:=c.rep.wipe vs
  hC:=c.hC
  gC:=c.gC
  nt:=c.nt
  no:=fun z=>c.no (abd z)
  al:=c.al
  nb:=fun j o e1 e2=>c.nb j o (aaq e1).1 (wipe_some e2).1
  ln:=(wipe_length σ vs).trans c.ln
end
section
variable {K:PySem.W.Frag} {n:Nat} {C:Addr}
end
section
variable {X:Cx} {W:WX} {kx vx tg iter:Expr} {ifs:List Expr} {scope:Scope} {own:List (Str × Nat)} {pos:Pos} {ti:TDI} {g':TG} {g:TDG} {tt:TDT} {tk tv:TD} {ix:List Nat} {r:List ClX}
end
section
variable {X:Cx} {W:WX} {kx vx tg iter:Expr} {ifs:List Expr} {scope:Scope} {own:List (Str × Nat)} {pos:Pos} {ti:TDI} {g':TG} {g:TDG} {tt:TDT} {tk tv:TD} {ix:List Nat} {r:List ClX}
end
section
variable {X:Cx} {W:WX} {kx vx tg iter tg1 iter1 tg2 iter2:Expr} {ifs ifs1 ifs2:List Expr} {scope:Scope} {own:List (Str × Nat)} {pos:Pos} {ti ti1 ti2:TDI} {g' g1' g2':TG} {g g1 g2:TDG} {tt tt1 tt2:TDT} {tk tv:TD} {ix ix1 ix2:List Nat}
end
end DL.DCT
namespace DL
open PySem PySem.Spec PyProof.Rows L2
section
variable {K:PySem.W.Frag} {G H:Hp}
end
section
variable {K:PySem.W.Frag} {G H:Hp}
end
section
variable {X:Cx} {W:WX} {o key value:Expr} {tk te:TD} {pos pos':Pos} {i j:Nat} {CW:Addr}
end
end DL
namespace DL
open PySem PySem.Spec PyProof.Rows L2 PySem.W PySem.Calls
def cellP (a:Addr) (v:V):Heap->Prop:=fun h=>∃ u,RelV v u/\h.IsCell a (some u)
abbrev CellHO (o:Obj) (a:Addr) (v:V):HO:=.frz o (.ext (cellP a v))
inductive CellsIn (K:PySem.W.Frag) (G:Hp):List (Str × Addr)->List (Str × D)->Prop
  | nil:CellsIn K G [] []
  | cons {x:Str} {a:Addr} {o:Obj} {v:V} {d:D} {cl:List (Str × Addr)} {fv:List (Str × D)}:G a=some (CellHO o a v)->DOk K G v d->CellsIn K G cl fv->CellsIn K G ((x,a)::cl) ((x,d)::fv)
section
variable {K:PySem.W.Frag} {G G1 H H1:Hp} {cs:List Addr} {so:So}
end
section
variable {P:Program} {wd:World} {H H1:Hp} {h h':Heap} {cs:List Addr} {fs:List Addr}
end
section
variable {P:Program} {wd:World} {K:PySem.W.Frag} {mg:Str->Option Value} {base:Heap} {N ps fn:List Str} {q:Str} {scope:Scope} {cl:List (Str × Addr)} {f c':Addr} {A:Around} {outer:List Env} {s:Shared} {H:Hp} {E:XK} {us:List Value} {vs cvs:List V} {h1:Heap} {tk:Nat}
end
theorem CellsIn.mono {K:PySem.W.Frag} {G G1:Hp} (e:Ex G G1):∀ {cl:List (Str × Addr)} {fv:List (Str × D)},CellsIn K G cl fv->CellsIn K G1 cl fv
  | _,_,.nil=>.nil
  | _,_,.cons h d r=>.cons (e _ _ h) (d.mono e) (CellsIn.mono e r)
theorem CellsIn.names {K:PySem.W.Frag} {G:Hp}:∀ {cl:List (Str × Addr)} {fv:List (Str × D)},CellsIn K G cl fv->cl.map (·.1)=fv.map (·.1)
  | _,_,.nil=>rfl
  | _,_,.cons h d r=>by rw [List.map_cons,List.map_cons,r.names]
section
variable {P:Program} {wd:World} {K:PySem.W.Frag} {mg:Str->Option Value} {base:Heap} {N ps fn:List Str} {q:Str} {params:Arguments} {body:Expr} {scope:Scope} {f:Addr} {k:Nat} {te:TD} {fv:List (Str × D)} {G:Hp}
end
section
variable {X:Cx} {W:WX} {x:Str} {j k:Nat} {e:Expr} {es:List Expr} {ta:TDA} {p pos:Pos}
end
section
variable {K:PySem.W.Frag} {G H:Hp} {so:So}
end
inductive CapD (sl:DSt):List (Str × Nat)->List (Str × D)->Prop
  | nil:CapD sl [] []
  | cons {x:Str} {j:Nat} {d:D} {ix:List (Str × Nat)} {fv:List (Str × D)}:sl[j]?=some (some (.d d))->CapD sl ix fv->CapD sl ((x,j)::ix) ((x,d)::fv)
theorem CapD.names {sl:DSt}:∀ {ix:List (Str × Nat)} {fv:List (Str × D)},CapD sl ix fv->fv.map (·.1)=ix.map (·.1)
  | _,_,.nil=>rfl
  | _,_,.cons _ r=>by rw [List.map_cons,List.map_cons,r.names]
section
variable {X:Cx} {pins:List (Addr × Obj)} {σ:L2.St} {H G:Hp} {s:Shared} {so:So} {sl:DSt}
end
section
variable {X:Cx} {W:WX} {k j i:Nat} {f0 f c' w tb CW:Addr} {fd:FuncData} {ps ps0 N fn:List Str} {sp:SpW} {pins:List (Addr × Obj)} {σ:L2.St} {H G:Hp} {so:So} {sl:DSt} {s:Shared} {Q:VK} {u:Value} {x:V} {d:D} {Q':DV->DSt->Prop} {st:WSt} {q:Str} {params:Arguments} {body:Expr} {scope:Scope} {tl:TD} {ix:List (Str × Nat)} {fv:List (Str × D)}
end
section
variable {X:Cx} {W:WX} {k j i:Nat} {f0 CW c:Addr} {fd:FuncData} {ps ps0 N fn:List Str} {sp:SpW} {m:Str} {params:Arguments} {body o e:Expr} {scope:Scope} {tl te:TD} {ix:List (Str × Nat)} {pos apos lpos:Pos} {pl:Sem Bool}
end
abbrev SpK:=List DV->(D->Prop)->Prop
def upC (K:PySem.W.Frag) (sp:SpK):Sp:=fun vs H Q E=>∃ G so args QD,HRep K G so H/\AsOk K G so H vs args/\sp args QD/\(∀ v H' G' d,PostV K G so H v H' G' (.d d)->QD d->Q v H')
def retC (Q:D->Prop):DV->Prop:=fun v=>(∃ e,v=.d e/\Q e)\/∃ ds,v=.own (.lst ds)/\Q (.lst ds)
theorem AsOk.drop {K:PySem.W.Frag} {G H:Hp} {so:So}:∀ {vs:List V} {ds:List DV},AsOk K G so H vs ds->AsOk K G so.drop H vs ds
  | _,_,.nil=>.nil
  | _,_,.cons h n t=>.cons h.drop n (AsOk.drop t)
  | _,_,.gh z h t=>.gh z h (AsOk.drop t)
theorem afY {K:PySem.W.Frag} {G:Hp} {so:So} {H:Hp} {N:List Str} {vs:List V} {args:List DV} (h:HRep K G so H) (w:AsOk K G so H vs args) (ns:∀ (i:Nat) (o:OO),args[i]?≠some (.see o)):Rep K G so (L2.start N vs) H (startD N args):=by
  have lv:=w.length
  have no:∀ a,¬ Own (startD N args) (L2.start N vs) a:=fun a ⟨i,o,e,_⟩=>by
    obtain ⟨_,_,_,n⟩:=w.get (aaX e)
    exact n o rfl
  refine ⟨h,by unfold startD L2.start;simp [lv],fun i d e=>?_,fun i j o o' a e1 _ _ _=>?_,fun i o a _ _=>no a,fun i o e=>ns i o (aaX e)⟩
  · obtain ⟨v,e1,e2,_⟩:=w.get (aaX e)
    refine ⟨v,?_,e2⟩
    unfold L2.start
    rw [List.getElem?_append_left (by rw [List.length_map];exact (List.getElem?_eq_some_iff.mp e1).1),List.getElem?_map,e1];rfl
  · obtain ⟨_,_,_,n⟩:=w.get (aaX e1)
    exact absurd rfl (n o)
theorem agG {P:Program} {wd:World} {K:PySem.W.Frag} {mg:Str->Option Value} {base:Heap} {n qual:Str} {params:Arguments} {body:List Stmt} {scope:Scope} {dvs:List V} {kws:List (Str × V)} {f:Addr} {fd:FuncData} {N ps:List Str} {k:Nat} {sp:SpK} {t:TDS}
    (F:FunD K n qual params body scope dvs kws f fd) (S:FnScope N ps scope) (len:∀ args Q,sp args Q->args.length=ps.length) (nsee:∀ args Q,sp args Q->∀ (i:Nat) (o:OO),args[i]?≠some (.see o))
    (hd:∀ (cdv:Value) (A:Around) (outer:List Env) (s:Shared) (H:Hp) (E:XK),Room k (A.deeper (envOfC qual scope s.heap.objs.size f cdv))->(cxOf (L2N.CX P wd) P wd K mg base N qual scope f cdv A outer s H E).A.guards=some []->
      DSs (cxOf (L2N.CX P wd) P wd K mg base N qual scope f cdv A outer s H E) (fun cls d _ H'=>E cls d H') body t)
    (hr:∀ args Q,sp args Q->t { nx:=fun _=>False,rt:=fun v _=>retC Q v,bk:=fun _=>False,ct:=fun _=>False,xc:=fun _ _ _=>False } (startD N args)):FnR P wd K mg base (k + 1) f fd ps (upC K sp):=by
  refine agF F S (fun vs H Q E h=>?_) (fun cdv A outer s H vs Q E hroom hg h=>?_)
  · obtain ⟨G,so,args,QD,_,w,q,_⟩:=h
    rw [w.length];exact len _ _ q
  · obtain ⟨G,so,args,QD,hrep,w,q,hq⟩:=h
    have no:∀ a,¬ Own (startD N args) (L2.start N vs) a:=fun a ⟨i,o,e,_⟩=>by
      obtain ⟨_,_,_,n⟩:=w.get (aaX e)
      exact n o rfl
    have rep:Rep K G so.drop (L2.start N vs) H (startD N args):=afY hrep.drop w.drop (nsee _ _ q)
    refine ⟨_,hd cdv A outer s H E hroom hg,G,so.drop,_,_,rep,hr args QD q,⟨fun _ _ _ _ _ z=>z.elim,fun _ _ _ _ _ z=>z.elim,fun _ _ _ _ _ z=>z.elim,fun v H' G' dv _ p z=>?_,fun _ _ _ _ _ _ _ _ _ z=>z.elim⟩⟩
    have pu:PostU K G so.drop H v H' G' dv:=⟨p.ex,p.hrep,fun a o e sa=>p.keep a o e sa (no a),fun a n g sa=>p.frm a n g sa (no a),p.val,fun a o e e2=>(p.new a o e e2).elim (fun k=>k) fun k=>absurd k (no a),fun o e=>by rcases z with ⟨_,z,_⟩ | ⟨_,z,_⟩<;>(subst z;cases e)⟩
    rcases z with ⟨e,rfl,z⟩ | ⟨ds,rfl,z⟩
    · exact hq v H' G' e (pu.back hrep fun _ e=>nomatch e) z
    · obtain ⟨G2,p2⟩:=(pu.back hrep fun _ e=>nomatch e).publish
      exact hq v H' G2 _ p2 z
section
variable {X:Cx} {W:WX} {k j:Nat} {f0 f c' c:Addr} {fd:FuncData} {ps ps0 N fn:List Str} {sp:SpK} {pins:List (Addr × Obj)} {σ:L2.St} {H G:Hp} {so:So} {sl:DSt} {s:Shared} {Q:VK} {u:Value} {x:V} {d:D} {Q':DV->DSt->Prop} {q:Str} {params:Arguments} {body:Expr} {scope:Scope} {tl te:TD} {ix:List (Str × Nat)} {fv:List (Str × D)}
variable {pos lpos p:Pos} {e:Expr} {nm:Str}
end
end DL
namespace DL
open PySem PySem.Spec PyProof.Rows L2
abbrev ES:=List (Str × Ent)
def Orph (K:PySem.W.Frag) (G:Hp) (so:So) (σ:L2.St) (H:Hp) (sl:DSt) (tb:Addr) (es:ES):Prop:=∃ ents,H tb=some (.dK ents)/\EAll K G H ents es/\(∀ a∈tb::ownA es,G a=none/\so.Nt a/\¬ Own sl σ a/\H a≠none)/\(tb::ownA es).Nodup
section
variable {K:PySem.W.Frag} {W:WX} {G G1 H H1:Hp} {so:So} {σ σ1:L2.St} {sl s1:DSt} {tb:Addr} {es:ES} {i:Nat} {v:V}
theorem Orph.step (o:Orph K G so σ H sl tb es) (p:PostS K G so σ H sl σ1 H1 G1 s1):Orph K G1 so σ1 H1 s1 tb es:=by
  obtain ⟨ents,h1,h2,h3,h4⟩:=o
  have same:∀ a∈tb::ownA es,H1 a=H a:=fun a m=>by
    obtain ⟨_,s,w,n⟩:=h3 a m
    obtain ⟨u,e⟩:=Option.ne_none_iff_exists'.mp n
    rw [p.keep a u e s w,e]
  refine ⟨ents,by rw [same _ (List.mem_cons_self ..)];exact h1,h2.keep p.ex (fun a m=>same a (List.mem_cons_of_mem _ m)),fun a m=>?_,h4⟩
  obtain ⟨g,s,w,n⟩:=h3 a m
  exact ⟨p.frm a n g s w,s,p.sub a n s w,by rw [same a m];exact n⟩
end
abbrev TGS:=(ES->DSt->Prop)->ES->DSt->Prop
structure OBase where
  G:Hp
  so:So
  σ:L2.St
  H:Hp
  sl:DSt
  tb:Addr
section
variable {K:PySem.W.Frag} {G H:Hp}
end
section
variable {X:Cx} {W:WX} {B:OBase} {st:Stmt} {rest:List Stmt} {t u:TGS} {td:TDS}
variable {i:Nat} {te tk:TD} {o key value:Expr} {pos pos':Pos}
end
abbrev SpWI:=List DV->(WSt->Prop)->Prop
section
variable {K:PySem.W.Frag} {W:WX} {G G1 H H1 H2:Hp} {so:So} {σ σ1:L2.St} {sl s1:DSt} {as:List Addr} {kd:Addr->Addr} {i:Nat} {x:Addr} {g:GR} {d:D}
end
section
variable {K:PySem.W.Frag} {G G2 H H2:Hp}
theorem EAll.tree (ex:Ex G G2):∀ {vs:List (Key × V)} {es:ES},(∀ a∈ownA es,∃ od u,H a=some u/\G2 a=some (.frz od u))->EAll K G H vs es->FAll K G2 vs (es.map fun p=>((.inr p.1:Key),D.dt p.2.2))
  | _,_,_,.nil=>.nil
  | _,_,h,.pub d r=>.cons (d.mono ex) (EAll.tree ex h r)
  | _,_,h,.own e f r=>by
    obtain ⟨od,u,e1,e2⟩:=h _ (List.mem_cons_self ..)
    rw [e] at e1;cases e1
    exact .cons (.dt e2 (f.mono ex)) (EAll.tree ex (fun a m=>h a (List.mem_cons_of_mem _ m)) r)
end
section
variable {X:Cx} {W:WX} {k i:Nat} {f CW w tb:Addr} {fd:FuncData} {ps:List Str} {sp:SpWI} {te:TD} {e:Expr} {nm y:Str} {p py pos spos:Pos} {rest:List Stmt} {u t:TDS} {n:Nat}
end
section
variable {prog:Program} {w:World} {K:Type} [DecidableEq K] {knd:KeyKind prog w K} {A:Around} {E:Value->Shared->Prop} {s:Shared}
end
section
variable {X:Cx} {W:WX} {k i:Nat} {f CW:Addr} {fd:FuncData} {ps:List Str} {sp:SpWI} {te:TD} {e:Expr} {nm y:Str} {p py pos spos:Pos} {rest:List Stmt} {u t:TDS} {n:Nat}
end
section
variable {X:Cx} {W:WX} {B:OBase} {i:Nat} {te tk:TD} {o key value:Expr} {pos pos':Pos} {tb:Addr}
end
end DL
namespace PySem
namespace HandSPX
section
variable {prog:Program} {w:World} {A:Around} {E:Value->Shared->Prop} {R:Result->Shared->Prop} {h:Heap} {g:Array GenState} {d:Drawn} {t:Nat} {os:OsState} {nm q:Str} {C N fI:Addr} {bs bm bmB rest:List Value} {hdct ab:Bool} {sn:List Str} {sub:List Value} {col:Option Bool} {dd:Option Addr} {k0 k1 k2 k3 k5:Option Value} {B newId initId:String} {kw:List (Str × Value)}
theorem ckNewK (F:ExcBaseFacts B newId initId bmB) (hT:∀ X:String,bm.contains (.type X)=bmB.contains (.type X)) {Q:Unit->Shared->Prop} (hC:h.get? C=some (excClassObj nm q C N bs bm hdct sn sub ab col dd k0 k1 k2 k3 k5 newId)) (hq:Q () ⟨h,g,d,t,os⟩):wpAny (model prog w) A (checkBuiltinCall newId ⟨.ref C::rest,kw⟩) Q E ⟨h,g,d,t,os⟩:=by
  have ct:(Value.ref C::bm).contains (.type B)=true:=(List.contains_cons ..).trans (by rw [hT,F.hasB,Bool.or_true])
  have st:=F.noStar
  simp only [checkBuiltinCall,F.newKind,F.newSplit,F.newRow]
  repeat (first | refine wpAny_loadPart_at hC ?_ | (refine wpAny_isSubtype_exc hC ?_;rw [ct]) | refine wpAny_staticBase_exc hC ?_ | refine wpAny_madeBy_exc hC ?_ | simp only [bne_self_eq_false,if_false,Bool.false_eq_true] | wp_step)
  exact hq
theorem newK (F:ExcBaseFacts B newId initId bmB) (hT:∀ X:String,bm.contains (.type X)=bmB.contains (.type X)) (hC:h.get? C=some (excClassObj nm q C N bs bm hdct sn sub ab col dd k0 k1 k2 k3 k5 newId))
    (hq:R (.ok (.ret (.ref (h.objs.size + 1)))) ⟨(h.push (W.kdv_tup rest)).push (excO C h.objs.size),g,d,t,os⟩) (hr:rest.length<=sizeLine):codeAny (model prog w) A (.builtin newId ⟨.ref C::rest,kw⟩) R ⟨h,g,d,t,os⟩:=by
  have ends:=F.ends
  have cB:(Value.ref C::bm).contains (.type B)=true:=(List.contains_cons ..).trans (by rw [hT,F.hasB,Bool.or_true])
  have cA:(Value.ref C::bm).contains (.type "AttributeError")=false:=(List.contains_cons ..).trans (by rw [hT,F.noAttr];rfl)
  have cN:(Value.ref C::bm).contains (.type "NameError")=false:=(List.contains_cons ..).trans (by rw [hT,F.noName];rfl)
  refine codeAny_builtinAt F.entry ?_
  unfold Builtin.«BaseException.__new__»
  refine wpAt_bind ?_
  show wpAt _ _ _ (stack >>= _) _ _ _
  refine wpAt_bind (wpAt_stack fun p below=>wpAt_of_wpAny ?_)
  wp_walk
  refine wpAt_of_wpAny ?_
  rw [F.owner]
  repeat (first | with_reducible refine wpAny_madeHere_exc F.canon hC ?_ | with_reducible refine wpAny_loadPart_at hC ?_ | (with_reducible refine wpAny_isSubtype_exc hC ?_;first | rw [cB] | rw [cA] | rw [cN]) | wp_step)
  show R _ _
  rw [Heap.size_push]
  exact hq
theorem tcallK (F:ExcBaseFacts B newId initId bmB) (hT:∀ X:String,bm.contains (.type X)=bmB.contains (.type X)) {Q:Fin->Shared->Prop} (hC:h.get? C=some (excClassObj nm q C N bs bm hdct sn sub ab col dd k0 k1 k2 k3 k5 newId))
    (hi:W.Looks (model prog w) h (typeLookup (.ref C) "__init__") (some (.ref fI))) (hb:∀ self,W.Looks (model prog w) h (bindSpecial (.ref fI) self) (.ref fI,[self])) (hr:rest.length<=sizeLine)
    (hq:codeAny (model prog w) A (.call (.ref fI) ⟨.ref (h.objs.size + 1)::rest,kw⟩) (fun r s'=>match r with | .ok (.ret v)=>v=.none/\Q (.done (.ret (.ref (h.objs.size + 1)))) s' | .ok _=>False | .error e=>E e s') ⟨(h.push (W.kdv_tup rest)).push (excO C h.objs.size),g,d,t,os⟩) :
    wpAny (model prog w) A (Builtin.«type.__call__» ⟨.ref C::rest,kw⟩) Q E ⟨h,g,d,t,os⟩:=by
  repeat (first | with_reducible refine wpAny_loadPart_at hC ?_ | with_reducible refine wpAny_madeBy_exc hC ?_ | wp_step)
  refine codeAny_call_builtin_code (Code.quiet_builtin _ F.quiet) (ckNewK F hT hC (newK F hT hC ?_ hr))
  show wpAny _ _ _ _ _ _
  have k:∀ b o,h.get? b=some o->((h.push (W.kdv_tup rest)).push (excO C h.objs.size)).get? b=some o:=fun b o e=>Heap.get?_push_of_some _ (Heap.get?_push_of_some _ e)
  have c1:=k _ _ hC
  have at1:((h.push (W.kdv_tup rest)).push (excO C h.objs.size)).get? (h.objs.size + 1)=some (excO C h.objs.size):=by heap_get
  have cC:(Value.ref C::bm).contains (.ref C)=true:=by simp
  unfold isInstance
  repeat (first | with_reducible refine wpAny_loadPart_at at1 ?_ | (with_reducible refine wpAny_isSubtype_exc c1 ?_;rw [cC]) | wp_step)
  show wpAny _ _ (typeLookup (.ref C) _) _ _ _
  refine (hi.keeps k).at (wpAny_holding (wpAny_bind (((hb (.ref (h.objs.size + 1))).keeps k).at (wpAny_bind (wpAny_call (codeAny_mono hq fun r s' z=>?_))))))
  rcases r with e | (v | _ | _ | _)<;>first | exact z | exact z.elim | skip
  obtain ⟨rfl,z⟩:=z
  first
    | exact wpAny_pure (wpAny_pure z)
    | (wp_walk;exact z)
theorem callK (F:ExcBaseFacts B newId initId bmB) (hT:∀ X:String,bm.contains (.type X)=bmB.contains (.type X)) (hC:h.get? C=some (excClassObj nm q C N bs bm hdct sn sub ab col dd k0 k1 k2 k3 k5 newId))
    (hi:W.Looks (model prog w) h (typeLookup (.ref C) "__init__") (some (.ref fI))) (hb:∀ self,W.Looks (model prog w) h (bindSpecial (.ref fI) self) (.ref fI,[self])) (hr:rest.length<=sizeLine) (ht:W.Looks (model prog w) h (isInstance (.ref C) (.type "type")) true)
    (hq:codeAny (model prog w) (A.under (.builtin "type.__call__" ⟨.ref C::rest,kw⟩)) (.call (.ref fI) ⟨.ref (h.objs.size + 1)::rest,kw⟩) (W.InitBack (h.objs.size + 1) R) ⟨(h.push (W.kdv_tup rest)).push (excO C h.objs.size),g,d,t,os⟩) :
    codeAny (model prog w) A (.call (.ref C) ⟨rest,kw⟩) R ⟨h,g,d,t,os⟩:=by
  have f1:=tc_lookup
  have f2:=tc_bind (.ref C)
  have ty:(⟨h,g,d,t,os⟩:Shared).TypeIs (.ref C) "type":=⟨_,hC,rfl⟩
  refine codeAny_of_tree ?_
  show wpAny _ _ (callAny (.ref C) _) _ _ _
  repeat (any_goals (first | assumption | with_reducible refine wpAny_loadPart_at hC ?_ | wp_step))
  refine ⟨rfl,?_⟩
  refine codeAny_call_builtin_at (Code.quiet_builtin _ (by decide +kernel)) entry_typeCall (W.check_slot tc_kind tc_split ht (W.tc_args _ _ _) (tcallK F hT hC hi hb hr ?_))
  refine codeAny_mono hq fun r s' z=>?_
  rcases r with e | (v | _ | _ | _)<;>exact z
end
end HandSPX
end PySem
namespace DL
open PySem PySem.Spec PyProof.Rows L2
section
variable {prog:Program} {w:World} {A:Around} {R:Result->Shared->Prop} {s:Shared} {K:PySem.W.Frag} {mg mb:Str->Option Value} {file:Str} {C fI e t:Addr} {params:Arguments} {body:List Stmt} {scope:Scope} {B newId initId:String} {bmB:List Value} {self:Str} {ps:List Str} {fs:List (Str × (Str ⊕ Str))} {us:List Value} {vs:List V} {val:Str->V}
theorem agh (XB:ExBase B newId initId bmB) (EK:ExK K file C fI params body scope B newId initId bmB) (ET:ExT body params scope self ps fs) (X:K.In s.heap) (G:s.heap.Ns mainGlobals mg) (hsu:mg ("super":Str)=none) (Bn:s.heap.Ns builtinsNs mb) (hbn:mb ("super":Str)=some (.type "super")) (lim:s.heap.NoLimit)
    (hfile:((prog.main.file:Str) == file)=true) (htop:(prog.main.scope.names.lookup ("super":Str)).isSome=false) (hroom:A.depth < recursionLimit) (he:s.heap.get? e=some (PySem.W.excObj C t none .none)) (Ke:K.lookup e=none)
    {ap:List Value} {kw:List (Str × Value)} (rv:Vals vs us) (hl:vs.length=ps.length) (hbind:∀ (name qual:Str) (doc pm:Value) (an:Option Addr) (cda ct:Value) (cc:Addr),bindArgs (PySem.W.ksFn name qual params body scope .none .none doc pm an cda ct cc) ⟨.ref e::ap,kw⟩=pure ((self::ps).zip (.ref e::us)))
    (ht:∀ f∈fs,PySem.W.takerIn K C f.1=some none)
    (h:∀ h' tk t',ExAt s.heap C e t' (fldV (fun x=>((ps.zip vs).lookup x).getD .non) fs []) { s with heap:=h',toks:=tk }->R (.ok (.ret .none)) { s with heap:=h',toks:=tk }) :
    codeAny (model prog w) A (.call (.ref fI) ⟨.ref e::ap,kw⟩) R s:=by
  obtain ⟨oc,od,osl,name,qual,doc,pm,an,cda,cc,ct,cvs,tf,ccl,cl,cdd,cld,ccs,csl,lk,hcd,lkc,hv2,lcc⟩:=EK.fn
  obtain ⟨p0,p1,p2,p3,p4,p5,msg,j,rest,hbd,hst,hev,hint,hsw⟩:=ET.shape
  obtain ⟨ar,har,hself⟩:=ET.head
  have hlen:us.length=ps.length:=by rw [<- rv.length];exact hl
  have hlcl:∀ x∈(self::ps).zip (Value.ref e::us),scope.names.lookup x.1=some .local:=fun x hx=>ET.loc x.1 (List.of_mem_zip hx).1
  refine ks_codeAny_call_defAt (fd:=PySem.W.ksFn name qual params body scope .none .none doc pm an (.ref cda) ct cc) (body:=body) (binds:=(self::ps).zip (Value.ref e::us)) hroom (X _ _ lk) rfl lim (PySem.W.codeRec_of X hcd) rfl (BindsTo.of_eq (hbind _ _ _ _ _ _ _ _)) ET.cell hlcl (fun h1 hns k1=>?_) ET.co ET.gen ET.kind
  have L:Addr:=s.heap.objs.size
  generalize henv:callEnv (PySem.W.ksFn name qual params body scope .none .none doc pm an (.ref cda) ct cc) s.heap.objs.size fI=env at *
  have eloc:env.locals=s.heap.objs.size:=by rw [<- henv];rfl
  have esc:env.scope=scope:=by rw [<- henv];rfl
  have ekd:∀ y,env.kindOf y=scope.names.lookup y:=fun y=>by rw [<- henv];rfl
  have ekf:env.scope.kind=.function:=by rw [esc];exact ET.kind
  have X1:K.In h1:=fun b o q=>k1 b o (X b o q)
  have he1:=k1 _ _ he
  have nL:env.locals≠e:=by rw [eloc];exact Nat.ne_of_gt (Heap.lt_size he)
  rw [<- eloc] at hns
  have all:=rv
  have key:∀ x∈ps,∃ u v,((self::ps).zip (Value.ref e::us)).reverse.lookup x=some u/\(ps.zip vs).lookup x=some v/\RelV v u:=fun x hx=>by
    obtain ⟨u,v,z1,z2,z3⟩:=aeX rv hl (List.nodup_cons.mp ET.nod).2 hx
    refine ⟨u,v,?_,z2,z3⟩
    rw [List.zip_cons_cons,List.reverse_cons,List.lookup_append,z1];rfl
  have kself:((self::ps).zip (Value.ref e::us)).reverse.lookup self=some (.ref e):=by
    rw [List.zip_cons_cons,List.reverse_cons,List.lookup_append]
    have:(ps.zip us).reverse.lookup self=none:=by
      rw [List.lookup_eq_none_iff]
      intro q hq
      have:=(List.of_mem_zip (List.mem_reverse.mp hq)).1
      rw [bne_iff_ne]
      intro z
      exact (List.nodup_cons.mp ET.nod).1 (z ▸ this)
    rw [this];simp [List.lookup]
  rw [hbd]
  obtain ⟨pl,hpl⟩:=hev env
  refine ks_wpAt_execs_cons (ks_wpAt_Expr_any (ks_wpAt_MethodCall ?_ hpl) (hint env ekf) (hsw env))
  refine ks_wpAt_super_base (ar:=ar) ((ekd _).trans ET.ks) ((ekd _).trans ET.kc) (by decide) (f:=fI) (by rw [<- henv];rfl) (X1 _ _ lk) rfl har (cc:=cda) (by rw [<- henv];rfl) (X1 _ _ lkc) rfl hv2 hfile htop ?_
  obtain ⟨cd,hcdC,hdC⟩:=PySem.W.any_some EK.st.hd
  obtain ⟨oD,hD1,hD2⟩:∃ oD,h1.get? C=some oD/\oD.data=.cls cd:=by
    unfold PySem.W.clsIn at hcdC
    split at hcdC
    · rename_i c d cd' sl ho
      cases hcdC
      exact ⟨_,X1 _ _ ho,rfl⟩
    · cases hcdC
  have G1:h1.Ns mainGlobals mg:=by obtain ⟨o,es,ep,e2,r⟩:=G;exact ⟨o,es,ep,k1 _ _ e2,r⟩
  have B1:h1.Ns builtinsNs mb:=by obtain ⟨o,es,ep,e2,r⟩:=Bn;exact ⟨o,es,ep,k1 _ _ e2,r⟩
  have I1:PySem.W.InstAt h1 e (PySem.W.excObj C t none .none) C none:=⟨he1,rfl,rfl,trivial⟩
  have hneC:e≠C:=PySem.W.ks_ne X1 I1 hcdC
  refine PySem.W.ks_loadName_global ekf ((ekd _).trans ET.ks) (Calls.loadGlobal_builtin (by rw [<- henv];exact G1) hsu (by rw [<- henv];exact B1) hbn ⟨rfl,?_⟩)
  refine wpAny_loadName_free ekf ((ekd _).trans ET.kc) (c:=cc) (by rw [<- henv];rfl) ⟨_,X1 _ _ lcc,rfl⟩ ?_
  rw [hself]
  refine wpAny_loadName_local ekf ((ekd _).trans (ET.loc _ (List.mem_cons_self ..))) hns kself ?_
  refine ks_wpAny_isType_cls hD1 hD2 ⟨rfl,?_⟩
  refine ks_wpAny_call_super hD1 hD2 he1 rfl (fun c z=>by cases z) (PySem.W.looks_mroIn X1 EK.own) (fun h2 so2 k2=>?_)
  have X2:K.In h2:=fun b o q=>k2 b o (X1 b o q)
  have he2:=k2 _ _ he1
  have I2:PySem.W.InstAt h2 e (PySem.W.excObj C t none .none) C none:=⟨he2,rfl,rfl,trivial⟩
  have hsup:=EK.sup
  unfold PySem.W.ks_superIn at hsup
  rw [hcdC] at hsup
  refine PySem.W.kxs_getMethod XB.kf so2 (PySem.W.looks_opaque X2 EK.op) (l₀:=cd.mro) (fun A Q E s k q=>wpAny_bind ((PySem.W.looks_clsIn X2 hcdC) A _ E s k (wpAny_pure q))) rfl X2 hsup (I2.type.andThen (PySem.W.looks_subIn X2 EK.sub)) hneC (by decide) ?_
  generalize hu:h2.objs.size=u
  have hu3:(h2.push (PySem.W.kxs_mw initId e)).get? u=some (PySem.W.kxs_mw initId e):=by rw [<- hu];exact Heap.get?_push_at rfl rfl
  have k3:∀ b o,h2.get? b=some o->(h2.push (PySem.W.kxs_mw initId e)).get? b=some o:=fun b o q=>Heap.get?_push_of_some _ q
  refine PySem.W.kxs_callWith (i:=initId) (x:=e) rfl (Calls.evalArgs_plain (Calls.spliced_cons (Calls.Constant_str (k:=j) (pos:=p3) (Calls.spliced_nil ⟨hu3,?_⟩))))
  obtain ⟨nm,N',qn,bs,bm,hdct,sn,sub,ab,col,dd,k0,k1',k2',k3',k5,hC,hT⟩:=PySem.W.excInit_of (X:=(fun b o q=>k3 b o (X2 b o q):K.In (h2.push (PySem.W.kxs_mw initId e)))) EK.q
  refine wpAny_call (codeAny_of_tree ?_)
  show wpAny _ _ (callAny (.ref u) _) _ _ _
  simp only [callAny]
  refine wpAny_bind (wpAny_load hu3 ?_)
  simp only [PySem.W.kxs_mw,show (Value.type "method-wrapper" == Value.type "method" || Value.type "method-wrapper" == Value.type "builtin_function_or_method" || Value.type "method-wrapper" == Value.type "method-wrapper")=true by decide,if_true]
  refine PySem.W.KFB.if_so (by decide) ?_
  refine wpAny_bind (PySem.W.check_bound_init XB.fb.toExcCallFacts hC (k3 _ _ he2) rfl ?_)
  refine wpAny_bind (wpAny_pure (wpAny_pure ?_))
  refine ⟨plainId_quiet XB.fb.init.plain _,codeAny_builtin XB.fb.initEntry ?_⟩
  refine PySem.W.exc_init_tree (cls:=.ref C) (t0:=t) (dv:=none) (c2:=.none) (c3:=.none) (b4:=.bool false) (k3 _ _ he2) (by show 1<=sizeLine;decide) fun h4 k4 e4 t4=>?_
  have kk:∀ b o,b≠e->h1.get? b=some o->h4.get? b=some o:=fun b o hb q=>k4 b o hb (k3 b o (k2 b o q))
  show PySem.wpAt _ _ _ (execs rest env) _ _ _
  refine PySem.wpAt_of_wpAny ?_
  have hst1:∀ (s5:Shared),s5.heap=h4->ExAt h1 C e (h2.push (PySem.W.kxs_mw initId e)).objs.size [] s5:=fun s5 z=>⟨fun b o hb q=>by rw [z];exact kk b o hb q,.inl ⟨rfl,by rw [z];exact e4⟩⟩
  refine ahM (h1:=h1) (K:=K) (C:=C) (e:=e) (m:=fun x=>((self::ps).zip (Value.ref e::us)).reverse.lookup x) (val:=fun x=>((ps.zip vs).lookup x).getD .non) XB.sf EK.st ekf hns nL X1 Ke ⟨_,he1⟩ ((ekd _).trans (ET.loc _ (List.mem_cons_self ..))) kself ET.sd hst ht (fun f hf x hx=>?_) (by rw [List.length_nil,Nat.zero_add];exact ET.len) (hst1 _ rfl) (fun h5 tk a=>?_)
  · have hxp:=ET.flds f hf x hx
    obtain ⟨u',v',z1,z2,z3⟩:=key x hxp
    exact ⟨(ekd _).trans (ET.loc _ (List.mem_cons_of_mem _ hxp)),u',z1,by rw [z2];exact z3⟩
  · refine h h5 tk (h2.push (PySem.W.kxs_mw initId e)).objs.size ⟨fun b o hb q=>a.keep b o hb (k1 b o q),?_⟩
    rcases a.at_ with z | ⟨dx,mA,z1,z2⟩
    · exact .inl z
    · refine .inr ⟨dx,mA,?_,z2⟩
      cases q:s.heap.get? dx with
      | none=>rfl
      | some o=>rw [k1 dx o q] at z1;cases z1
end
def ExV (a C d:Addr):HO:=.ext fun h=>∃ t,h.get? a=some (PySem.W.excObj C t (some d) .none)
theorem aiu {P:Program} {w:World} {H:Hp} {h:Heap} {a C d t:Addr} (e:h.get? a=some (PySem.W.excObj C t (some d) .none)):ObjOk P w H h a (ExV a C d):=⟨⟨t,e⟩,⟨_,e⟩,fun _ _ ⟨t,z⟩ k=>⟨t,k _ z⟩⟩
section
variable {X:Cx} {file:Str} {C fI:Addr} {params:Arguments} {body:List Stmt} {scope:Scope} {B newId initId:String} {bmB:List Value} {self:Str} {ps:List Str} {fs:List (Str × (Str ⊕ Str))}
theorem ahS {pins:List (Addr × Obj)} {σ:L2.St} {H1:Hp} {s1:Shared} {us ap:List Value} {kw:List (Str × Value)} {vs:List V} {Q:VK} (XB:ExBase B newId initId bmB) (EK:ExK X.K file C fI params body scope B newId initId bmB) (ET:ExT body params scope self ps fs)
    (hfile:((X.prog.main.file:Str) == file)=true) (htop:(X.prog.main.scope.names.lookup ("super":Str)).isSome=false) (hsu:X.mg ("super":Str)=none)
    (hbind:∀ (e:Addr) (name qual:Str) (doc pm:Value) (an:Option Addr) (cda ct:Value) (cc:Addr),bindArgs (PySem.W.ksFn name qual params body scope .none .none doc pm an cda ct cc) ⟨.ref e::ap,kw⟩=pure ((self::ps).zip (.ref e::us)))
    (ht:∀ f∈fs,PySem.W.takerIn X.K C f.1=some none) (hne:∀ vs,xdV ps fs vs≠[]) (hr:Room 2 X.A) (I1:Inv X pins σ H1 s1) (rv:Vals vs us) (hl:vs.length=ps.length) (hl2:ap.length<=1000) (q:∀ e d,H1 e=none->H1 d=none->d≠e->Q (.ref e) (upd (upd H1 d (.xd (xdV ps fs vs))) e (ExV e C d))) :
    wpAny (model X.prog X.w) X.A (call (.ref C) ap kw) (EP X pins σ Q) X.xe s1:=by
  obtain ⟨nm,N',qn,bs,bm,hdct,sn,sub,ab,col,dd,k0,k1,k2,k3,k5,hC,hT⟩:=PySem.W.excInit_of I1.kIn EK.q
  obtain ⟨hp,g,dr,tk,os⟩:=s1
  have hus:ap.length<=sizeLine:=by rw [sizeLine_eq];omega
  obtain ⟨oI,hoI,hcI⟩:∃ oI,hp.get? fI=some oI/\oI.cls=.type "function":=by
    obtain ⟨o,ho,hc⟩:=Option.map_eq_some_iff.mp (show (X.K.lookup fI).map (·.cls)=some (.type "function") from EK.ff)
    exact ⟨o,I1.kIn _ _ ho,hc⟩
  have hTy:PySem.W.Looks (model X.prog X.w) hp (isInstance (.ref C) (.type "type")) true:=(PySem.W.looks_typeIn I1.kIn EK.tyC).andThen (PySem.W.Looks.of_pure (by rw [isSubtype_type];kernel_rfl))
  refine wpAny_call (PySem.HandSPX.callK XB.fb hT hC (PySem.W.looks_findIn I1.kIn EK.hi) (fun self=>PySem.W.exc_bind hoI hcI self) hus hTy ?_)
  have kk:∀ b o,hp.get? b=some o->((hp.push (PySem.W.kdv_tup ap)).push (PySem.HandSPX.excO C hp.objs.size)).get? b=some o:=fun b o e=>Heap.get?_push_of_some _ (Heap.get?_push_of_some _ e)
  have hget:((hp.push (PySem.W.kdv_tup ap)).push (PySem.HandSPX.excO C hp.objs.size)).get? (hp.objs.size + 1)=some (PySem.W.excObj C hp.objs.size none .none):=by heap_get
  have lt:∀ {b:Addr} {o:Obj},hp.get? b=some o->b≠hp.objs.size + 1:=fun {b o} z=>Nat.ne_of_lt (Nat.lt_succ_of_lt (Heap.lt_size z))
  have Ke:X.K.lookup (hp.objs.size + 1)=none:=by
    cases z:X.K.lookup (hp.objs.size + 1) with
    | none=>rfl
    | some o=>exact absurd rfl (lt (I1.kIn _ _ z))
  generalize hh2:(hp.push (PySem.W.kdv_tup ap)).push (PySem.HandSPX.excO C hp.objs.size)=h2 at *
  have KM:=I1.ok.mod
  obtain ⟨mb,nb,hbb⟩:=KM.blt
  have bk:∀ b o,X.base.get? b=some o->h2.get? b=some o:=fun b o z=>kk b o (I1.bk b o z)
  have nsb:∀ {b:Addr} {m:Str->Option Value},X.base.Ns b m->h2.Ns b m:=fun {b m} ⟨o,es,ep,e2,r⟩=>⟨o,es,ep,bk _ _ e2,r⟩
  have lim:h2.NoLimit:=by obtain ⟨mc,n1,n2⟩:=KM.nolimit;exact ⟨mc,nsb n1,n2⟩
  refine agh (s:=⟨h2,g,dr,tk,os⟩) (self:=self) (ps:=ps) (fs:=fs) (vs:=vs) (us:=us) (mg:=X.mg) (mb:=mb) XB EK ET (fun b o z=>bk b o (KM.kin b o z)) (nsb KM.glob) hsu (nsb nb) ((hbb _ (by decide)).trans PyProof.Rows.Boot.«super») lim hfile htop (hr.make C ap kw).depth hget Ke rv hl (hbind _) ht fun h' tk' t' a=>?_
  obtain ⟨ak,z | ⟨dx,mA,nd,hx,hn,rel⟩⟩:=a
  · exact absurd z.1 (hne vs)
  refine ⟨rfl,?_⟩
  have nd1:hp.get? dx=none:=by
    cases z:hp.get? dx with
    | none=>rfl
    | some o=>rw [kk dx o z] at nd;cases nd
  have dne:dx≠hp.objs.size + 1:=fun z=>by rw [z,hget] at nd;cases nd
  have nH:H1 dx=none:=I1.hok.gone nd1
  have nE:H1 (hp.objs.size + 1)=none:=I1.hok.fresh (Nat.le_succ _)
  have J1:Inv X pins σ (upd H1 dx (.xd (xdV ps fs vs))) ⟨h',g,dr,tk',os⟩:=
    Inv.laidN (h':=h') (t':=tk') I1 (fun b o z=>ak b o (lt z) (kk b o z)) nd1 nH ⟨mA,hn,rel⟩
  have J2:=J1.take (h':=h') (t':=tk') (it:=hp.objs.size + 1) (o:=ExV (hp.objs.size + 1) C dx) (fun b ob _ e=>e) (I1.fpOk (Nat.le_succ _) (by rw [upd_ne (Ne.symm dne)];exact nE)) (aiu hx)
  exact ⟨.ref (hp.objs.size + 1),_,J2,rfl,q _ _ nE nH dne⟩
end
structure XcOk (K:PySem.W.Frag) (C:Addr):Prop where
  x:XfC K C
  no:∀ f∈errFields,PySem.W.findIn K (.ref C) f=some none
  ha:PySem.W.findIn K (.ref C) "__class__"=some (some (.builtin "object.__class__"))
  hn:PySem.W.specialIn K (.builtin "object.__class__") "__get__"=some (some (.builtin "getset_descriptor.__get__"))
  ht:PySem.W.takesIn K (.builtin "object.__class__")=some true
  hm:PySem.W.mroIn K C (.type "object")=some true
def ExIn (K:PySem.W.Frag) (G:Hp) (a C:Addr) (fs:List (Str × D)):Prop:=XcOk K C/\∃ d vs,G a=some (ExV a C d)/\G d=some (.xd vs)/\FAll K G vs fs
theorem ExIn.mono {K:PySem.W.Frag} {G G':Hp} {a C:Addr} {fs:List (Str × D)} (e:Ex G G'):ExIn K G a C fs->ExIn K G' a C fs:=fun ⟨h,d,vs,h1,h2,h3⟩=>⟨h,d,vs,e _ _ h1,e _ _ h2,h3.mono e⟩
def excG (a C:Addr) (fs:List (Str × D)):GR:=⟨[],fun K G _=>ExIn K G a C fs,fun _ _ _ _ _ e _ h=>h.mono e,fun _=>0⟩
abbrev excD (a C:Addr) (fs:List (Str × D)):DV:=.gh a (excG a C fs)
abbrev XRow:=Addr × Addr × List (Str × D)
def exlG (p:Addr) (rows:List XRow):GR:=⟨[],fun K G _=>G p=some (.lst (rows.map fun r=>V.ref r.1))/\∀ r∈rows,ExIn K G r.1 r.2.1 r.2.2,fun _ _ _ _ _ e _ h=>⟨e _ _ h.1,fun r m=>(h.2 r m).mono e⟩,fun _=>0⟩
abbrev exlD (p:Addr) (rows:List XRow):DV:=.gh p (exlG p rows)
structure XClsN (P:Program) (K:PySem.W.Frag) (mg:Str->Option Value) (C:Addr) (ps:List Str) (fs:List (Str × (Str ⊕ Str))) (n:Nat) (ks:List Str):Prop where
  how:∃ file fI params body scope B newId initId bmB self,ExBase B newId initId bmB/\ExK K file C fI params body scope B newId initId bmB/\ExT body params scope self ps fs/\((P.main.file:Str) == file)=true/\(P.main.scope.names.lookup ("super":Str)).isSome=false/\
    (∀ (e:Addr) (us ws:List Value),us.length=n->ws.length=ks.length->∀ (name qual:Str) (doc pm:Value) (an:Option Addr) (cda ct:Value) (cc:Addr),bindArgs (PySem.W.ksFn name qual params body scope .none .none doc pm an cda ct cc) ⟨.ref e::us,ks.zip ws⟩=pure ((self::ps).zip (.ref e::(us++ws))))
  ht:∀ f∈fs,PySem.W.takerIn K C f.1=some none
  ne:∀ vs,xdV ps fs vs≠[]
  su:mg ("super":Str)=none
  kC:PySem.W.keepIn K (.ref C)=true
  ln:n<=1000
  lp:n + ks.length=ps.length
  xc:XcOk K C
abbrev TDX:=DSt->(Addr->Addr->List (Str × D)->DSt->Prop)->Prop
abbrev E0X:XP:=fun _ _ _=>False
def upX (K:PySem.W.Frag) (t:TDX):TE:=fun σ H R=>∃ G so sl Q,Rep K G so σ H sl/\t sl Q/\∀ a C fs H' G' sl',Post K G so σ H sl H' G' sl'->ExIn K G' a C fs->Q a C fs sl'->R (.ref a) H'
def upXs (K:PySem.W.Frag) (t:DSt->(List XRow->DSt->Prop)->Prop):TA:=fun σ H R=>∃ G so sl Q,Rep K G so σ H sl/\t sl Q/\∀ rows H' G' sl',Post K G so σ H sl H' G' sl'->(∀ r∈rows,ExIn K G' r.1 r.2.1 r.2.2)->Q rows sl'->R (rows.map fun r=>V.ref r.1) H'
def dMkX (C:Addr) (ps:List Str) (fs:List (Str × (Str ⊕ Str))) (n m:Nat) (ta tk:TDA):TDX:=fun sl Q=>ta sl (fun ds s1=>tk s1 (fun ys s2=>∃ xs,ds.length=n/\ys.length=m/\dats (ds++ys)=some xs/\∀ a,Q a C (xdD ps fs xs) s2) E0X) E0X
def dXnil:DSt->(List XRow->DSt->Prop)->Prop:=fun sl Q=>Q [] sl
def dXcons (t1:TDX) (t2:DSt->(List XRow->DSt->Prop)->Prop):DSt->(List XRow->DSt->Prop)->Prop:=fun sl Q=>t1 sl fun a C fs s1=>t2 s1 fun rows s2=>Q ((a,C,fs)::rows) s2
section
variable {K:PySem.W.Frag} {W:WX} {G G1 H H1:Hp} {so:So} {σ:L2.St} {sl s1:DSt}
theorem afi:XOk K W G so σ H sl E0X:=fun _ _ _ _ _ _ _ _ z=>z.elim
theorem Post.both {p:Addr} {o:HO} (r:Rep K G so σ H sl) (n:H p=none):Post K G so σ H sl (upd H p o) (upd G p o) sl:=
  ((⟨Ex.new (r.h.ex.free n),r.h.allocG n,fun _ _ e _=>Ex.new n _ _ e,fun b q g _=>(by rw [upd_ne (fun z=>by subst z;exact q n)];exact g),.non,fun _ _ e=>(nomatch e),fun _ e=>(nomatch e)⟩:PostV K G so H .non (upd H p o) (upd G p o) (.d .non)).slots r).toPost
end
section
variable {X:Cx} {W:WX} {C:Addr} {ps ks:List Str} {fs:List (Str × (Str ⊕ Str))} {n:Nat} {x:Str} {p pos:Pos} {e:Expr} {es:List Expr} {kws:List Keyword} {ta tk:TDA}
theorem XClsN.go (T:XClsN X.prog X.K X.mg C ps fs n ks) (hr:Room 2 X.A) {pins:List (Addr × Obj)} {σ:L2.St} {H G:Hp} {so:So} {sl:DSt} {s:Shared} {us ws:List Value} {vs qs:List V} {ds ys:List DV} {xs:List D} {R:VK} (I:Inv X pins σ H s) (rep:Rep X.K G so σ H sl) (r1:Vals vs us) (r2:Vals qs ws) (w1:VsOk X.K G so H vs ds) (w2:VsOk X.K G so H qs ys)
    (l1:ds.length=n) (l2:ys.length=ks.length) (ed:dats (ds++ys)=some xs) (hq:∀ a H' G',Post X.K G so σ H sl H' G' sl->ExIn X.K G' a C (xdD ps fs xs)->R (.ref a) H') :
    wpAny (model X.prog X.w) X.A (call (.ref C) us (ks.zip ws)) (EP X pins σ R) X.xe s:=by
  obtain ⟨file,fI,params,body,scope,B,n1,n2,bmB,self,z1,z2,z3,z4,z5,z6⟩:=T.how
  have lu:us.length=n:=by rw [<- r1.length,w1.length,l1]
  have lw:ws.length=ks.length:=by rw [<- r2.length,w2.length,l2]
  refine ahS (us:=us++ws) (vs:=vs++qs) z1 z2 z3 z4 z5 T.su (fun e=>z6 e us ws lu lw) T.ht T.ne hr I (r1.append r2) (by rw [List.length_append,w1.length,w2.length,l1,l2];exact T.lp) (by rw [lu];exact T.ln) fun a d na nd hd=>?_
  have al:=ad4 (w1.app w2) ed
  have p1:=Post.both (o:=.xd (xdV ps fs (vs++qs))) rep nd
  have na':(upd H d (.xd (xdV ps fs (vs++qs)))) a=none:=by rw [upd_ne (Ne.symm hd)];exact na
  have p2:=Post.both (o:=ExV a C d) p1.rep na'
  refine hq a _ _ (p1.trans p2) ⟨T.xc,d,_,upd_same,by rw [upd_ne hd];exact upd_same,(ah7 al).mono (p1.trans p2).ex⟩
theorem ade (T:XClsN X.prog X.K X.mg C ps fs n []) (hr:Room 2 X.A) (hg:Gl X x) (hm:X.mg x=some (.ref C)) (ha:DA X W0 (e::es) ta) (hdb:(x == ("__debug__":Str))=false:=by decide) (he:starEach (e::es) X.env=(false,eval e X.env)::starEach es X.env:=by rfl) (hpl:(backTo pos (starEach es X.env)).any (·.1)=false:=by rfl) :
    PE X (.Call (.Name x p) (e::es) [] pos) (upX X.K (dMkX C ps fs n 0 ta dNil)):=by
  refine ⟨fun pins s σ H R I ⟨G,so,sl,Q,rep,q,hq⟩=>wpAny_Call_Name_kw (ld_glob I hg hm ?_ hdb)⟩
  refine PySem.W.callWith_K (h₀:=X.base) I.ok.mod.kin T.kC (thn (ha.run pos pins s σ H (fun vs H1=>∃ G1 ds s1 xs,Post X.K G so σ H sl H1 G1 s1/\VsOk X.K G1 so H1 vs ds/\ds.length=n/\dats (ds++[])=some xs/\∀ a,Q a C (xdD ps fs xs) s1) I
    ⟨G,so,sl,_,_,rep,q,fun vs H1 G1 ds s1 p1 w ⟨xs,y1,_,y2,y3⟩=>⟨G1,ds,s1,xs,p1,w,y1,y2,y3⟩,afi⟩) fun us s1 ⟨vs,H1,I1,r,G1,ds,sl1,xs,p1,w,l1,ed,z⟩=>⟨I1.kIn,?_⟩) he hpl
  exact T.go (ws:=[]) (qs:=[]) (ys:=[]) hr I1 p1.rep r .nil w .nil l1 rfl ed fun a H' G' pp ex=>hq a C _ H' G' _ (p1.trans pp) ex (z a)
theorem aeo (T:XClsN X.prog X.K X.mg C ps fs 0 []) (hr:Room 2 X.A) (hg:Gl X x) (hm:X.mg x=some (.ref C)) (hdb:(x == ("__debug__":Str))=false:=by decide):PE X (.Call (.Name x p) [] [] pos) (upX X.K (dMkX C ps fs 0 0 dNil dNil)):=by
  refine ⟨fun pins s σ H R I ⟨G,so,sl,Q,rep,⟨xs,_,_,ed,z⟩,hq⟩=>wpAny_Call_Name_kw (ld_glob I hg hm ?_ hdb)⟩
  exact PySem.W.callWith_K0 I.kIn T.kC (T.go (us:=[]) (vs:=[]) (ds:=[]) (ws:=[]) (qs:=[]) (ys:=[]) hr I rep .nil .nil .nil .nil rfl rfl ed fun a H' G' pp ex=>hq a C _ H' G' _ pp ex (z a))
theorem agr (T:XClsN X.prog X.K X.mg C ps fs n ks) (hr:Room 2 X.A) (hg:Gl X x) (hm:X.mg x=some (.ref C)) (ha:DA X W0 (e::es) ta) (hkw:DK X W0 kws tk) (hall:(backToKw pos (keywordEach kws X.env)).all (·.1.isSome)=true:=by rfl) (hks:(backToKw pos (keywordEach kws X.env)).filterMap (·.1)=ks:=by rfl) (hdb:(x == ("__debug__":Str))=false:=by decide)
    (he:starEach (e::es) X.env=(false,eval e X.env)::starEach es X.env:=by rfl) (hpl:((backTo pos (starEach (e::es) X.env)).any (·.1) || (backToKw pos (keywordEach kws X.env)).any (·.1.isNone))=false:=by rfl) :
    PE X (.Call (.Name x p) (e::es) kws pos) (upX X.K (dMkX C ps fs n ks.length ta tk)):=by
  refine ⟨fun pins s σ H R I ⟨G,so,sl,Q,rep,q,hq⟩=>wpAny_Call_Name_kw (ld_glob I hg hm ?_ hdb)⟩
  refine PySem.W.callWith_KW (h₀:=X.base) I.ok.mod.kin T.kC hall (thn (ha.run pos pins s σ H (fun vs H1=>∃ G1 ds s1,Post X.K G so σ H sl H1 G1 s1/\VsOk X.K G1 so H1 vs ds/\tk s1 (fun ys s2=>∃ xs,ds.length=n/\ys.length=ks.length/\dats (ds++ys)=some xs/\∀ a,Q a C (xdD ps fs xs) s2) E0X) I
    ⟨G,so,sl,_,_,rep,q,fun vs H1 G1 ds s1 p1 w z=>⟨G1,ds,s1,p1,w,z⟩,afi⟩) fun us s1 ⟨vs,H1,I1,r,G1,ds,sl1,p1,w,z⟩=>?_) hpl he
  refine thn (hkw.run pos pins s1 σ H1 (fun qs H2=>∃ G2 ys s2 xs,Post X.K G1 so σ H1 sl1 H2 G2 s2/\VsOk X.K G2 so H2 qs ys/\ds.length=n/\ys.length=ks.length/\dats (ds++ys)=some xs/\∀ a,Q a C (xdD ps fs xs) s2) I1
    ⟨G1,so,sl1,_,_,p1.rep,z,fun qs H2 G2 ys s2 p2 w2 ⟨xs,y1,y2,y3,y4⟩=>⟨G2,ys,s2,xs,p2,w2,y1,y2,y3,y4⟩,afi⟩) fun ws s2 ⟨qs,H2,I2,r2,G2,ys,sl2,xs,p2,w2,l1,l2,ed,z⟩=>⟨I2.kIn,?_⟩
  rw [hks]
  exact T.go hr I2 p2.rep r r2 (w.keep p2.ex p2.keep) w2 l1 l2 ed fun a H' G' pp ex=>hq a C _ H' G' _ ((p1.trans p2).trans pp) ex (z a)
theorem abt (T:XClsN X.prog X.K X.mg C ps fs 0 ks) (hr:Room 2 X.A) (hg:Gl X x) (hm:X.mg x=some (.ref C)) (hkw:DK X W0 kws tk) (hall:(backToKw pos (keywordEach kws X.env)).all (·.1.isSome)=true:=by rfl) (hks:(backToKw pos (keywordEach kws X.env)).filterMap (·.1)=ks:=by rfl) (hdb:(x == ("__debug__":Str))=false:=by decide)
    (hpl:((backTo pos (starEach [] X.env)).any (·.1) || (backToKw pos (keywordEach kws X.env)).any (·.1.isNone))=false:=by rfl) :
    PE X (.Call (.Name x p) [] kws pos) (upX X.K (dMkX C ps fs 0 ks.length dNil tk)):=by
  refine ⟨fun pins s σ H R I ⟨G,so,sl,Q,rep,q,hq⟩=>wpAny_Call_Name_kw (ld_glob I hg hm ?_ hdb)⟩
  refine PySem.W.callWith_KW0 (h₀:=X.base) I.ok.mod.kin T.kC hall ?_ hpl
  refine thn (hkw.run pos pins s σ H (fun qs H2=>∃ G2 ys s2 xs,Post X.K G so σ H sl H2 G2 s2/\VsOk X.K G2 so H2 qs ys/\ys.length=ks.length/\dats ([]++ys)=some xs/\∀ a,Q a C (xdD ps fs xs) s2) I
    ⟨G,so,sl,_,_,rep,q,fun qs H2 G2 ys s2 p2 w2 ⟨xs,_,y2,y3,y4⟩=>⟨G2,ys,s2,xs,p2,w2,y2,y3,y4⟩,afi⟩) fun ws s2 ⟨qs,H2,I2,r2,G2,ys,sl2,xs,p2,w2,l2,ed,z⟩=>⟨I2.kIn,?_⟩
  rw [hks]
  exact T.go (us:=[]) (vs:=[]) (ds:=[]) hr I2 p2.rep .nil r2 .nil w2 rfl l2 ed fun a H' G' pp ex=>hq a C _ H' G' _ (p2.trans pp) ex (z a)
theorem ahQ:PA X [] (upXs X.K dXnil):=⟨fun pos pins s σ H R I ⟨G,so,sl,Q,rep,q,hq⟩=>pa_nil.run pos pins s σ H R I (hq [] H G sl (Post.refl rep) (fun _ m=>nomatch m) q)⟩
theorem aaA {t1:TDX} {t2:DSt->(List XRow->DSt->Prop)->Prop} (h1:PE X e (upX X.K t1)) (h2:PA X es (upXs X.K t2)) (hs:starEach (e::es) X.env=(false,eval e X.env)::starEach es X.env:=by rfl):PA X (e::es) (upXs X.K (dXcons t1 t2)):=
  ⟨fun pos pins s σ H R I ⟨G,so,sl,Q,rep,q,hq⟩=>(pa_cons h1 h2 hs).run pos pins s σ H R I ⟨G,so,sl,_,rep,q,fun a C fs H1 G1 s1 p1 ex z=>⟨G1,so,s1,_,p1.rep,z,fun rows H2 G2 s2 p2 exs z2=>
    hq ((a,C,fs)::rows) H2 G2 s2 (p1.trans p2) (fun r m=>by
      rcases List.mem_cons.mp m with rfl | m
      · exact ex.mono p2.ex
      · exact exs r m) z2⟩⟩⟩
end
section
variable {K:PySem.W.Frag} {W:WX} {G G1 H H1:Hp} {so:So} {σ:L2.St} {sl s1:DSt} {i:Nat} {x:Addr} {g:GR} {y z:DV}
def DV.still:DV->Bool
  | .d _=>true
  | .gh _ r=>r.as.isEmpty
  | _=>false
theorem Rep.tell {v:V} (r:Rep K G so σ H sl) (e:sl[i]?=some (some y)) (hy:y.still=true) (hz:z.still=true) (ev:σ[i]?=some (some v)) (ok:SlOk K G so H v z):Rep K G so σ H (sl.set i (some z))/\∀ a,Own (sl.set i (some z)) σ a ↔ Own sl σ a:=by
  have old:∀ {j:Nat} {d:DV},(sl.set i (some z))[j]?=some (some d)->d.still=false->sl[j]?=some (some d):=fun {j d} f n=>by
    rcases get_set f with ⟨_,q⟩ | ⟨_,q⟩
    · cases q;rw [hz] at n;cases n
    · exact q
  have own:∀ a,Own (sl.set i (some z)) σ a ↔ Own sl σ a:=fun a=>⟨fun ⟨j,o,f1,f2⟩=>⟨j,o,old f1 rfl,f2⟩,fun ⟨j,o,f1,f2⟩=>⟨j,o,by
    rw [List.getElem?_set_ne (fun q=>by subst q;rw [e] at f1;cases f1;cases hy)];exact f1,f2⟩⟩
  exact ⟨⟨r.h,by rw [List.length_set];exact r.len,fun j d f=>by
    rcases get_set f with ⟨rfl,q⟩ | ⟨_,q⟩
    · cases q;exact ⟨v,ev,ok⟩
    · exact r.slots j d q,fun j k o o' a f1 f2=>r.sep j k o o' a (old f1 rfl) (old f2 rfl),fun j o a f1 f2 q=>r.bor j o a (old f1 rfl) f2 ((own a).mp q),fun j o f=>r.nse j o (old f rfl)⟩,own⟩
end
theorem ahl {α:Type}:∀ {l:List α} {i:Nat} {a:α},l[i]?=some a->l.set i a=l
  | [],_,_,e=>by simp at e
  | x::r,0,a,e=>by simp at e;subst e;rfl
  | x::r,i + 1,a,e=>by rw [List.set_cons_succ,ahl (l:=r) (by simpa using e)]
abbrev rawsX (rows:List XRow):List D:=rows.map fun r=>.raw (.ref r.1)
theorem afa {K:PySem.W.Frag} {G:Hp}:∀ (rows:List XRow),DAll K G (rows.map fun r=>V.ref r.1) (rawsX rows)
  | []=>.nil
  | _::r=>.cons (.raw _) (afa r)
section
variable {X:Cx} {W:WX} {i j k:Nat} {x nm:Str} {e o ce:Expr} {es:List Expr} {p pos pos' lpos:Pos} {t:DSt->(List XRow->DSt->Prop)->Prop} {te:TD}
def dSetXs (i:Nat) (t:DSt->(List XRow->DSt->Prop)->Prop):TDS:=fun E sl=>t sl (fun rows s1=>rows.length<=szl/\∀ p,E.nx (s1.set i (some (exlD p rows))))
theorem ahe (hN:X.N.Nodup) (hi:X.N[i]?=some x) (hx:Loc X.env.scope x) (h:PA X es (upXs X.K t)) (hs:swapsWith (.List es lpos) (some (.Name x pos')) pos.line X.env=pure false:=by rfl) (hf:X.fn x=true\/X.env.scope.names.lookup x=some .local:=by first | exact .inl rfl | exact .inr rfl | assumption) :
    DS X W (.Assign [.Name x pos'] (.List es lpos) pos) (dSetXs i t):=agp (ps_set hN hi hx (pe_lst h) hs hf) fun D σ H hl ⟨G,so,sl,E,rep,q,ok⟩=>by
  have hi':i < σ.length:=by rw [hl];exact (List.getElem?_eq_some_iff.mp hi).1
  refine ⟨G,so,sl,_,rep,q,fun rows H' G' s1 pp exs ⟨z1,z2⟩=>⟨by rw [List.length_map,<- ab7];exact z1,fun p np=>?_⟩⟩
  have p2:=Post.both (o:=.lst (rows.map fun r=>V.ref r.1)) pp.rep np
  have pe:PostE X.K G so σ H sl (.ref p) _ _ (.d (.lst (rawsX rows))) s1:={ pp.trans p2 with val:=DOk.lst upd_same (afa rows),new:=fun _ _ z=>(nomatch z),sepv:=fun _ _ z=>(by rcases z with z | z<;>cases z),nbs:=fun _ _ _ _ z=>(nomatch z) }
  have ps:=PostE.set hi' (fun _ z=>(by cases z)) pe
  have li:i < s1.length:=by rw [pp.rep.len];exact hi'
  obtain ⟨r3,ow⟩:=ps.rep.tell (y:=.d (.lst (rawsX rows))) (z:=exlD p rows) (List.getElem?_set_self li) rfl rfl (List.getElem?_set_self hi') ⟨rfl,fun _ m=>(by cases (show _∈([]:List Addr) from m)),upd_same,fun r m=>(exs r m).mono p2.ex⟩
  rw [List.set_set] at r3 ow
  exact ok.nx _ _ _ _ ⟨ps.ex,r3,ps.keep,ps.frm,fun a n s w z=>ps.sub a n s w ((ow a).mp z),ps.ln⟩ (z2 p)
@[irreducible] def dExl (i:Nat):TD:=fun sl Q _=>∃ p rows,sl[i]?=some (some (exlD p rows))/\Q (.d (.lst (rawsX rows))) sl
theorem afO (he:PE X o (tVar i)):DE X W o (dExl i):=abD he fun σ H R ⟨G,so,sl,Q,E,rep,q0,hq,_⟩=>by
  unfold dExl at q0
  obtain ⟨p,rows,e0,q⟩:=q0
  obtain ⟨v,e1,rfl,_,h1,h2⟩:=rep.slots i _ e0
  exact ⟨.ref p,e1,hq _ H G _ sl ((Post.refl rep).thenV (.dat rep.h (.lst h1 (afa rows)))) q⟩
@[irreducible] def dAsX (j k:Nat) (te:TD):TD:=fun sl Q _=>∃ p rows r,sl[j]?=some (some (exlD p rows))/\r∈rows/\sl[k]?=some (some (.d (.raw (.ref r.1))))/\
  te (sl.set k (some (excD r.1 r.2.1 r.2.2))) (fun dv s1=>s1=sl.set k (some (excD r.1 r.2.1 r.2.2))/\Q dv sl) E0X
theorem afP (h:DE X W e te):DE X W e (dAsX j k te):=abD h fun σ H R ⟨G,so,sl,Q,E,rep,q0,hq,_⟩=>by
  unfold dAsX at q0
  obtain ⟨p,rows,r,e0,hr,ek,q⟩:=q0
  obtain ⟨v,f1,rfl,_,_,h2⟩:=rep.slots j _ e0
  obtain ⟨u,g1,g2⟩:=rep.slots k _ ek
  have g2:DOk X.K G u (.raw (.ref r.1)):=g2
  cases g2
  obtain ⟨r2,ow⟩:=rep.tell (z:=excD r.1 r.2.1 r.2.2) ek rfl rfl g1 ⟨rfl,fun _ m=>(by cases (show _∈([]:List Addr) from m)),h2 r hr⟩
  refine ⟨G,so,_,_,E0X,r2,q,fun w H1 G1 dv s1 pe ⟨es,z⟩=>?_,afi⟩
  subst es
  have lk:k < sl.length:=(List.getElem?_eq_some_iff.mp ek).1
  obtain ⟨r3,ow3⟩:=pe.rep.tell (y:=excD r.1 r.2.1 r.2.2) (z:=.d (.raw (.ref r.1))) (List.getElem?_set_self lk) rfl rfl g1 (show DOk X.K G1 _ _ from .raw _)
  rw [List.set_set,ahl ek] at r3 ow3
  have bo:∀ (i':Nat) (o':OO),sl[i']?=some (some (.bor o'))->(sl.set k (some (excD r.1 r.2.1 r.2.2)))[i']?=some (some (.bor o')):=fun i' o' z=>by
    rw [List.getElem?_set_ne (fun y=>by subst y;rw [ek] at z;cases z)];exact z
  exact hq w H1 G1 dv sl { ex:=pe.ex,rep:=r3,keep:=pe.keep,frm:=fun a n g s w=>pe.frm a n g s fun z=>w ((ow a).mp z),sub:=fun a z=>z,bsub:=fun i' o' z=>⟨o',z⟩,val:=pe.val,new:=fun a o' z y=>(pe.new a o' z y).imp id (ow a).mp,sepv:=fun a o' z y q=>pe.sepv a o' z y ((ow a).mpr q),nbs:=fun a o' i' o2 z y q=>pe.nbs a o' i' o2 z y (bo i' o2 q) } z
theorem aih {te:TE} {n:Str} (he:PE X e te) (hb:attributeBase e n X.env (eval e X.env)=eval e X.env:=by rfl):PE X (.Attribute e n pos) fun σ H Q=>te σ H fun x H1=>∃ a C dx fs v,x=.ref a/\H1 a=some (ExV a C dx)/\H1 dx=some (.xd fs)/\XfC X.K C/\PySem.W.findIn X.K (.ref C) n=some none/\fs.lookup n=some v/\Q v H1:=by
  refine ⟨fun pins s σ H Q I h=>?_⟩
  refine attr_of hb (thn (he.run pins s σ H _ I h) fun u s1 ⟨x,H1,I1,rx,a,C,dx,fs,v,ex,ea,ed,T,hno,l,q⟩=>?_)
  subst ex
  obtain rfl:u=Value.ref a:=rx
  obtain ⟨⟨t,hx⟩,_,_⟩:ObjOk X.prog X.w H1 s1.heap a (ExV a C dx):=I1.hok a _ ea
  obtain ⟨mA,hns,hr⟩:ObjOk X.prog X.w H1 s1.heap dx (.xd fs):=I1.hok dx _ ed
  obtain ⟨od,ho,hl⟩:=lookIn_ns hns
  obtain ⟨w,hw,rw'⟩:=RelO.some_of (v:=v) (o:=mA n) (by rw [<- l];exact hr n)
  have J:PySem.W.InstAt s1.heap a (PySem.W.excObj C t (some dx) .none) C (some od):=⟨hx,rfl,rfl,ho⟩
  exact HandSPX.exc_get I1.kIn J T.ga T.gg T.exC (PySem.W.findObj_own T.hdC hno rfl (by rw [hl,hw])) (handed_of rw') ⟨v,H1,I1.tok _,rw',q⟩
@[irreducible] def dXat (k:Nat) (n:Str):TD:=fun sl Q _=>∃ a C fs d,sl[k]?=some (some (excD a C fs))/\n∈errFields/\fs.lookup n=some d/\Q (.d d) sl
theorem aaS {n:Str} (he:PE X e (tVar k)) (hb:attributeBase e n X.env (eval e X.env)=eval e X.env:=by rfl):DE X W (.Attribute e n pos) (dXat k n):=abD (aih he hb) fun σ H R ⟨G,so,sl,Q,E,rep,q0,hq,_⟩=>by
  unfold dXat at q0
  obtain ⟨a,C,fs,d,e0,hn,el,q⟩:=q0
  obtain ⟨v,e1,rfl,_,T,dx,vs,h1,h2,h3⟩:=rep.slots k _ e0
  obtain ⟨w,l,dw⟩:=h3.look el
  exact ⟨.ref a,e1,a,C,dx,vs,w,rfl,rep.h.ex _ _ h1,rep.h.ex _ _ h2,T.x,T.no n hn,l,hq w H G _ sl ((Post.refl rep).thenV (.dat rep.h dw)) q⟩
def rIsX (K:PySem.W.Frag):List V->Hp->VK->Prop:=fun xs H Q=>∃ a C d fs c cv b,xs=[.ref a,c]/\H a=some (ExV a C d)/\H d=some (.xd fs)/\XcOk K C/\(∀ u,RelV c u->u=cv)/\PySem.W.kitOne K (.ref C) cv=some b/\Q (.bl b) H
theorem ahg:CallR X (.builtin "isinstance") (rIsX X.K):=by
  intro pins s σ H xs us Q I r ⟨a,C,d,fs,c,cv,b,ex,ea,ed,T,hcv,hk,q⟩
  subst ex
  cases r with
  | cons rx rr=>
    cases rr with
    | cons rt rr=>
      cases rr
      cases rx
      have ec:=hcv _ rt
      subst ec
      obtain ⟨⟨t,hx⟩,_,_⟩:ObjOk X.prog X.w H s.heap a (ExV a C d):=I.hok a _ ea
      obtain ⟨mA,hns,hr⟩:ObjOk X.prog X.w H s.heap d (.xd fs):=I.hok d _ ed
      obtain ⟨od,ho,hl⟩:=lookIn_ns hns
      have J:PySem.W.InstAt s.heap a (PySem.W.excObj C t (some d) .none) C (some od):=⟨hx,rfl,rfl,ho⟩
      have hc:(PySem.W.clsIn X.K C).isSome=true:=by obtain ⟨cd,hc,_⟩:=PySem.W.any_some T.x.hdC;rw [hc];rfl
      exact PySem.W.kia_one (PySem.W.kitx_exc hc T.x.ga T.x.gg T.x.exC T.ha T.hn T.ht T.hm) I.kIn J hk (fun z=>nomatch z) fun tk=>⟨.bl b,H,I.kept (t':=tk) fun _ _ z=>z,rfl,q⟩
@[irreducible] def dXis (K:PySem.W.Frag) (k:Nat) (cv:Value):TD:=fun sl Q _=>∃ a C fs b,sl[k]?=some (some (excD a C fs))/\PySem.W.kitOne K (.ref C) cv=some b/\Q (.d (.bl b)) sl
theorem aaJ {K:PySem.W.Frag} {c:V} {cv:Value} (hg:Gl X "isinstance") (hm:X.mg "isinstance"=none) (he:PE X e (tVar k)) (hc:PE X ce (tC c)) (hcv:∀ u,RelV c u->u=cv) (hs:starEach [e,ce] X.env=(false,eval e X.env)::starEach [ce] X.env:=by rfl) (hs2:starEach [ce] X.env=(false,eval ce X.env)::starEach [] X.env:=by rfl) (hpl:(backTo pos (starEach [ce] X.env)).any (·.1)=false:=by rfl) (hK:X.K=K:=by rfl) :
    DE X W (.Call (.Name "isinstance" p) [e,ce] [] pos) (dXis K k cv):=by
  subst hK
  exact abD (pe_callB ahg hg hm (by decide +kernel) (pa_cons he (pa_cons hc pa_nil hs2) hs) (by decide) (by decide) hs hpl) fun σ H R ⟨G,so,sl,Q,E,rep,q0,hq,_⟩=>(by
    unfold dXis at q0
    obtain ⟨a,C,fs,b,e0,hk,q⟩:=q0
    obtain ⟨v,e1,rfl,_,T,dx,vs,h1,h2,h3⟩:=rep.slots k _ e0
    exact ⟨.ref a,e1,a,C,dx,vs,c,cv,b,rfl,rep.h.ex _ _ h1,rep.h.ex _ _ h2,T,hcv,hk,hq _ H G _ sl ((Post.refl rep).thenV (.dat rep.h (.bl b))) q⟩)
@[irreducible] def dCallX (sp:SpK) (k:Nat):TD:=fun sl Q _=>∃ a C fs,sl[k]?=some (some (excD a C fs))/\sp [excD a C fs] (fun d=>Q (.d d) sl)
theorem afg {n:Nat} {f:Addr} {fd:FuncData} {ps:List Str} {sp:SpK} (F:FnR X.prog X.w X.K X.mg X.base n f fd ps (upC X.K sp)) (hr:Room n X.A) (hgd:X.A.guards=some []) (tk:L2N.Takes X W) (hb:Bd X.K fd ps 1 [] [.pos 0]) (hg:Gl X nm) (hm:X.mg nm=some (.ref f)) (hk:PySem.W.keepIn X.K (.ref f)=true) (he:PE X e (tVar k)) (hdb:(nm == ("__debug__":Str))=false:=by decide)
    (hs:starEach [e] X.env=(false,eval e X.env)::starEach [] X.env:=by rfl) (hpl:(backTo pos (starEach [] X.env)).any (·.1)=false:=by rfl):DE X W (.Call (.Name nm p) [e] [] pos) (dCallX sp k):=by
  refine ⟨fun pins s σ H Q I ⟨G,so,sl,Q',E,rep,q0,hq,hx⟩=>wpAny_Call_Name_kw (ld_glob I hg hm ?_ hdb)⟩
  unfold dCallX at q0
  obtain ⟨a,C,fs,e0,q⟩:=q0
  obtain ⟨v,e1,rfl,_,hin⟩:=rep.slots k _ e0
  refine PySem.W.callWith_K (h₀:=X.base) I.ok.mod.kin hk (thn ((pa_cons he pa_nil hs).run pos pins s σ H (fun vs H1=>vs=[.ref a]/\H1=H) I ⟨_,e1,rfl,rfl⟩) fun us s1 ⟨vs,H1,I1,r,ev,eH⟩=>⟨I1.kIn,?_⟩) hs hpl
  subst ev eH
  obtain ⟨zs,bt,rz⟩:=hb.to s1 us [] [.ref a] [] I1.kIn (by rw [<- r.length];rfl) rfl r .nil
  refine wpAny_call (codeAny_mono (F.run X.A X.stack s1 H1 ⟨us,([]:List Str).zip []⟩ zs [.ref a] Q (fun cls d H'=>W cls d σ H') hr hgd I1.env0 bt rz
    ⟨G,so,_,_,rep.h,.gh (r:=excG a C fs) rfl hin .nil,q,fun v H' G' d pv z=>hq v H' G' (.d d) sl (pv.slots rep) z⟩) fun r s' hz=>?_)
  cases r with
  | error e=>exact tk e s' (L2N.XE.of_call I1 (fun _ _ _ z=>z) hz)
  | ok fl=>
    cases fl with
    | ret u=>exact I1.after hz
    | next=>exact False.elim hz
    | brk=>exact False.elim hz
    | cont=>exact False.elim hz
end
theorem XOk'.clsN {K:PySem.W.Frag} {file:Str} {ask:Bool} {e:XSpec} {P:Program} {mg:Str->Option Value} {self:Str} {ps ks:List Str} {fs:List (Str × (Str ⊕ Str))} {n:Nat} (h:XOk' K file ask e) (T:ExT e.text.2.1 e.text.1 e.text.2.2 self ps fs) (hf:((P.main.file:Str) == file)=true) (ht:(P.main.scope.names.lookup ("super":Str)).isSome=false)
    (hb:∀ (e':Addr) (us ws:List Value),us.length=n->ws.length=ks.length->∀ (name qual:Str) (doc pm:Value) (an:Option Addr) (cda ct:Value) (cc:Addr),bindArgs (PySem.W.ksFn name qual e.text.1 e.text.2.1 e.text.2.2 .none .none doc pm an cda ct cc) ⟨.ref e'::us,ks.zip ws⟩=pure ((self::ps).zip (.ref e'::(us++ws))))
    (hfl:∀ f∈fs,f.1∈e.flds) (ne:∀ vs,xdV ps fs vs≠[]) (su:mg ("super":Str)=none) (ln:n<=1000) (lp:n + ks.length=ps.length) (xc:XcOk K (He.ga K e.name)):XClsN P K mg (He.ga K e.name) ps fs n ks:=
  ⟨⟨file,_,_,_,_,_,_,_,_,self,afD _,h.k,T,hf,ht,hb⟩,fun f hf=>h.t f.1 (hfl f hf),ne,su,h.k.kC,ln,lp,xc⟩
def ahB (te:TD) (i:Nat) (n1 n2:Int):TDS:=fun E sl=>te sl (fun y s1=>∃ d1 d2 ds j1 j2,y=.d (.tup [d1,d2])/\s1[i]?=some (some (.own (.lst ds)))/\ixN ds.length n1=some j1/\ixN ds.length n2=some j2/\E.nx (s1.set i (some (.own (.lst ((ds.set j1 d1).set j2 d2)))))) E.xc
section
variable {X:Cx} {W:WX} {o o2 value key1 key2:Expr} {te:TD} {pos pos1 pos2 tpos:Pos} {i kt:Nat} {n1 n2:Int}
theorem ahf (hc:X.calm=true) (ho:PE X o (tVar i)) (ho2:PE X o2 (tVar i)) (hk1:PE X key1 (tC (.int n1))) (hk2:PE X key2 (tC (.int n2))) (hv:DE X W value te) (hs:swapsWithSole [.Tuple [.Subscript o key1 pos1,.Subscript o2 key2 pos2] kt tpos] value pos.line X.env=pure false:=by rfl) (hw:swappedStores [.Tuple [.Subscript o key1 pos1,.Subscript o2 key2 pos2] kt tpos] value X.env=pure none:=by rfl)
    (h1:(assignEach [.Tuple [.Subscript o key1 pos1,.Subscript o2 key2 pos2] kt tpos] X.env).map (·.2)=[assign (.Tuple [.Subscript o key1 pos1,.Subscript o2 key2 pos2] kt tpos) X.env]:=by rfl)
    (hn:(assignEach [.Subscript o key1 pos1,.Subscript o2 key2 pos2] X.env).length=2:=by rfl) (hst:(assignEach [.Subscript o key1 pos1,.Subscript o2 key2 pos2] X.env).findIdx? (·.1)=none:=by rfl)
    (he1:(assignEach [.Subscript o key1 pos1,.Subscript o2 key2 pos2] X.env).map (·.2)=assign (.Subscript o key1 pos1) X.env::(assignEach [.Subscript o2 key2 pos2] X.env).map (·.2):=by rfl) (he2:(assignEach [.Subscript o2 key2 pos2] X.env).map (·.2)=assign (.Subscript o2 key2 pos2) X.env::(assignEach [] X.env).map (·.2):=by rfl)
    (ha1:∀ v,assign (.Subscript o key1 pos1) X.env v=(do
      let ov <- holding [v] (eval o X.env)
      let iv <- holding [v,ov] (eval key1 X.env)
      standAt pos1
      holding [v,ov,iv] (setItem ov iv v)
      release [v,ov,iv] []):=by intro _;rfl)
    (ha2:∀ v,assign (.Subscript o2 key2 pos2) X.env v=(do
      let ov <- holding [v] (eval o2 X.env)
      let iv <- holding [v,ov] (eval key2 X.env)
      standAt pos2
      holding [v,ov,iv] (setItem ov iv v)
      release [v,ov,iv] []):=by intro _;rfl) :
    DS X W (.Assign [.Tuple [.Subscript o key1 pos1,.Subscript o2 key2 pos2] kt tpos] value pos) (ahB te i n1 n2):=by
  refine agq (ps_asg hv (pg_tup hc (pgs_cons (pg_sub ho hk1 set_list ha1) (pgs_cons (pg_sub ho2 hk2 set_list ha2) pgs_nil he2) he1) hn hst) hs hw h1) fun D σ H ⟨G,so,sl,E,rep,q,ok⟩=>?_
  refine ⟨G,so,sl,_,E.xc,rep,q,fun y H1 G1 dy s1 p z=>?_,ok.xc.ex⟩
  obtain ⟨d1,d2,ds,j1,j2,rfl,e0,i1,i2,z⟩:=z
  obtain ⟨a,vs,rfl,g1,al⟩:=VOk.tup p.rep.h p.val
  obtain ⟨v0,f0,b,rfl,gb,sb,us,hb,db⟩:=p.rep.slots i _ e0
  cases al with
  | cons w1 al=>
    cases al with
    | cons w2 al=>
      cases al
      refine ⟨a,_,rfl,g1,rfl,_,_,rfl,.ref b,f0,b,us,n1,j1,rfl,rfl,hb,by rw [db.length];exact i1,?_⟩
      have li:i < s1.length:=(List.getElem?_eq_some_iff.mp e0).1
      have m1:=PostS.mut (o':=.lst (ds.set j1 d1)) p.rep e0 f0 ⟨_,upd_same,DAll.set w1 j1 db⟩
      refine ⟨_,_,rfl,.ref b,f0,b,us.set j1 _,n2,j2,rfl,rfl,upd_same,by rw [List.length_set,db.length];exact i2,?_⟩
      have m2:=PostS.mut (o':=.lst ((ds.set j1 d1).set j2 d2)) m1.rep (List.getElem?_set_self li) f0 ⟨_,upd_same,DAll.set w2 j2 (DAll.set w1 j1 db)⟩
      rw [List.set_set] at m2
      exact ⟨rfl,ok.nx σ _ G1 _ ((p.toPost.s.trans m1).trans m2) z⟩
end
section
variable {K:PySem.W.Frag} {sl s1:DSt} {E:XP} {i j k n m:Nat} {p a C:Addr} {fs:List (Str × D)} {rows:List XRow} {r:XRow} {d:D} {b:Bool} {f:Str} {cv:Value} {Q:DV->DSt->Prop} {te:TD}
theorem abB (e:sl[k]?=some (some (excD a C fs))) (hn:f∈errFields) (hl:fs.lookup f=some d) (q:Q (.d d) sl):dXat k f sl Q E:=by unfold dXat;exact ⟨a,C,fs,d,e,hn,hl,q⟩
theorem aaZ (e:sl[k]?=some (some (excD a C fs))) (hk:PySem.W.kitOne K (.ref C) cv=some b) (q:Q (.d (.bl b)) sl):dXis K k cv sl Q E:=by unfold dXis;exact ⟨a,C,fs,b,e,hk,q⟩
theorem aha (e:sl[i]?=some (some (exlD p rows))) (q:Q (.d (.lst (rawsX rows))) sl):dExl i sl Q E:=by unfold dExl;exact ⟨p,rows,e,q⟩
theorem ahb (e:sl[j]?=some (some (exlD p rows))) (hr:r∈rows) (ek:sl[k]?=some (some (.d (.raw (.ref r.1))))) (q:te (sl.set k (some (excD r.1 r.2.1 r.2.2))) (fun dv s1=>s1=sl.set k (some (excD r.1 r.2.1 r.2.2))/\Q dv sl) E0X):dAsX j k te sl Q E:=by unfold dAsX;exact ⟨p,rows,r,e,hr,ek,q⟩
theorem afx {sp:SpK} (e:sl[k]?=some (some (excD a C fs))) (q:sp [excD a C fs] (fun d=>Q (.d d) sl)):dCallX sp k sl Q E:=by unfold dCallX;exact ⟨a,C,fs,e,q⟩
theorem aip {Q:List XRow->DSt->Prop} (q:Q [] sl):dXnil sl Q:=q
theorem aaH {t1:TDX} {t2:DSt->(List XRow->DSt->Prop)->Prop} {Q:List XRow->DSt->Prop} (q:t1 sl fun a C fs s1=>t2 s1 fun rows s2=>Q ((a,C,fs)::rows) s2):dXcons t1 t2 sl Q:=q
theorem agc {t:DSt->(List XRow->DSt->Prop)->Prop} {u:TDS} {E:EndsD} (sp:List (Addr × List (Str × D))) (hl:sp.length<=szl) (h:∀ Q:List XRow->DSt->Prop,(∀ rows,rows.map (·.2)=sp->Q rows sl)->t sl Q) (q:∀ p rows,rows.map (·.2)=sp->u E (sl.set i (some (exlD p rows)))):dSeq (dSetXs i t) u E sl:=
  h _ fun rows e=>⟨by rw [<- e,List.length_map] at hl;exact hl,fun p=>q p rows e⟩
theorem agm {u:TDS} {E:EndsD} {n1 n2:Int} (d1 d2:D) (ds:List D) (j1 j2:Nat) (e:sl[i]?=some (some (.own (.lst ds)))) (h1:ixN ds.length n1=some j1) (h2:ixN ds.length n2=some j2) (h:∀ Q:DV->DSt->Prop,Q (.d (.tup [d1,d2])) sl->te sl Q E.xc) (q:u E (sl.set i (some (.own (.lst ((ds.set j1 d1).set j2 d2)))))):dSeq (ahB te i n1 n2) u E sl:=h _ ⟨d1,d2,ds,j1,j2,rfl,e,h1,h2,q⟩
end
end DL
namespace K01
open PySem PySem.Spec PyProof.Rows L2 DL
structure Tx (P:Program) (K:PySem.W.Frag) (mg:Str->Option Value) (base:Heap) (a:Nat->Addr) (d:Nat->FuncData):Prop where
  tb:∀ q∈lamFns K,LamX.TabB base mg q.1 q.2.1
  F__law_source:FunD K "_law_source" "_law_source" (defArgs aaP) (defBody aaP) (defScope aaP) [] [] (a aaW) (d aaW)
  m__law_source:mg "_law_source"=some (.ref (a aaW))
  F__law_draw:FunD K "_law_draw" "_law_draw" (defArgs aaR) (defBody aaR) (defScope aaR) [] [] (a aaK) (d aaK)
  m__law_draw:mg "_law_draw"=some (.ref (a aaK))
  F__law_of:FunD K "_law_of" "_law_of" (defArgs abC) (defBody abC) (defScope abC) [] [] (a abv) (d abv)
  m__law_of:mg "_law_of"=some (.ref (a abv))
  F__law_same:FunD K "_law_same" "_law_same" (defArgs aa4) (defBody aa4) (defScope aa4) [] [] (a aaT) (d aaT)
  m__law_same:mg "_law_same"=some (.ref (a aaT))
  F__law_fields:FunD K "_law_fields" "_law_fields" (defArgs aaQ) (defBody aaQ) (defScope aaQ) [] [] (a aaN) (d aaN)
  m__law_fields:mg "_law_fields"=some (.ref (a aaN))
  F__law_first_classes:FunD K "_law_first_classes" "_law_first_classes" (defArgs aaB) (defBody aaB) (defScope aaB) [] [] (a aap) (d aap)
  m__law_first_classes:mg "_law_first_classes"=some (.ref (a aap))
  F__law_last_classes:FunD K "_law_last_classes" "_law_last_classes" (defArgs aaF) (defBody aaF) (defScope aaF) [] [] (a aar) (d aar)
  m__law_last_classes:mg "_law_last_classes"=some (.ref (a aar))
  F_law:FunD K "law" "law" (defArgs adK) (defBody adK) (defScope adK) [] [] (a ahc) (d ahc)
  x_InvalidRatio:XCls P K mg (He.ga K "InvalidRatio") ["given"] aa7
  x_InvalidNumber:XCls P K mg (He.ga K "InvalidNumber") ["given"] aa2
  x_InvalidName:XCls P K mg (He.ga K "InvalidName") ["given"] abo
  x_DuplicateName:XCls P K mg (He.ga K "DuplicateName") ["name"] aa3
  x_InvalidRow:XCls P K mg (He.ga K "InvalidRow") ["at"] abA
  x_InvalidLayer:XCls P K mg (He.ga K "InvalidLayer") ["given"] abb
  x_InvalidTable:XCls P K mg (He.ga K "InvalidTable") ["layer"] aa6
  x_InvalidWay:XCls P K mg (He.ga K "InvalidWay") ["layer","start","goal"] abz
  x_InvalidPlace:XCls P K mg (He.ga K "InvalidPlace") ["given"] aa9
  x_InvalidPoint:XCls P K mg (He.ga K "InvalidPoint") ["given"] aa8
  x_InvalidForm:XCls P K mg (He.ga K "InvalidForm") ["given"] abp
  x_InvalidStep:XCls P K mg (He.ga K "InvalidStep") ["path"] abm
  x_UnlikeEnds:XCls P K mg (He.ga K "UnlikeEnds") ["path"] aby
  x_InvalidText:XCls P K mg (He.ga K "InvalidText") ["word"] abl
  x_InvalidFact:XCls P K mg (He.ga K "InvalidFact") ["at"] abq
  x_UnlikeScripts:XCls P K mg (He.ga K "UnlikeScripts") [] aa0
  x_UnlikeWorlds:XCls P K mg (He.ga K "UnlikeWorlds") [] aa5
  x_HasTests:XCls P K mg (He.ga K "HasTests") [] abR
  x_NoWorld:XCls P K mg (He.ga K "NoWorld") [] acJ
  x_InvalidCommand:XCls P K mg (He.ga K "InvalidCommand") ["at"] aaV
  x_InvalidLimit:XCls P K mg (He.ga K "InvalidLimit") ["given"] aba
  x_Full:XCls P K mg (He.ga K "Full") ["limit"] ae2
  x_InvalidPage:XCls P K mg (He.ga K "InvalidPage") ["line"] abn
  x_TooMany:XCls P K mg (He.ga K "TooMany") ["subject","most"] acI
  x_UnknownName:XCls P K mg (He.ga K "UnknownName") ["name"] abj
  x_UnknownScript:XCls P K mg (He.ga K "UnknownScript") ["word"] aa1
  x_NothingLeft:XCls P K mg (He.ga K "NothingLeft") [] abk
  xk_NothingLeft_0:XClsN P K mg (He.ga K "NothingLeft") [] abk 0 []
  xk_UnknownScript_0_word:XClsN P K mg (He.ga K "UnknownScript") ["word"] aa1 0 ["word"]
  xk_UnknownName_1:XClsN P K mg (He.ga K "UnknownName") ["name"] abj 1 []
  xk_TooMany_1_most:XClsN P K mg (He.ga K "TooMany") ["subject","most"] acI 1 ["most"]
  xk_InvalidPage_0_line:XClsN P K mg (He.ga K "InvalidPage") ["line"] abn 0 ["line"]
  xk_Full_0_limit:XClsN P K mg (He.ga K "Full") ["limit"] ae2 0 ["limit"]
  xk_InvalidLimit_1:XClsN P K mg (He.ga K "InvalidLimit") ["given"] aba 1 []
  xk_InvalidCommand_1:XClsN P K mg (He.ga K "InvalidCommand") ["at"] aaV 1 []
  xk_NoWorld_0:XClsN P K mg (He.ga K "NoWorld") [] acJ 0 []
  xk_HasTests_0:XClsN P K mg (He.ga K "HasTests") [] abR 0 []
  xk_UnlikeWorlds_0:XClsN P K mg (He.ga K "UnlikeWorlds") [] aa5 0 []
  xk_UnlikeScripts_0:XClsN P K mg (He.ga K "UnlikeScripts") [] aa0 0 []
  xk_InvalidFact_0_at:XClsN P K mg (He.ga K "InvalidFact") ["at"] abq 0 ["at"]
  xk_InvalidText_0_word:XClsN P K mg (He.ga K "InvalidText") ["word"] abl 0 ["word"]
  xk_UnlikeEnds_1:XClsN P K mg (He.ga K "UnlikeEnds") ["path"] aby 1 []
  xk_InvalidStep_0_path:XClsN P K mg (He.ga K "InvalidStep") ["path"] abm 0 ["path"]
  xk_InvalidForm_1:XClsN P K mg (He.ga K "InvalidForm") ["given"] abp 1 []
  xk_InvalidPoint_0_given:XClsN P K mg (He.ga K "InvalidPoint") ["given"] aa8 0 ["given"]
  xk_InvalidPlace_1:XClsN P K mg (He.ga K "InvalidPlace") ["given"] aa9 1 []
  xk_InvalidWay_2_goal:XClsN P K mg (He.ga K "InvalidWay") ["layer","start","goal"] abz 2 ["goal"]
  xk_InvalidTable_0_layer:XClsN P K mg (He.ga K "InvalidTable") ["layer"] aa6 0 ["layer"]
  xk_InvalidLayer_1:XClsN P K mg (He.ga K "InvalidLayer") ["given"] abb 1 []
  xk_InvalidRow_1:XClsN P K mg (He.ga K "InvalidRow") ["at"] abA 1 []
  xk_DuplicateName_0_name:XClsN P K mg (He.ga K "DuplicateName") ["name"] aa3 0 ["name"]
  xk_InvalidName_1:XClsN P K mg (He.ga K "InvalidName") ["given"] abo 1 []
  xk_InvalidNumber_0_given:XClsN P K mg (He.ga K "InvalidNumber") ["given"] aa2 0 ["given"]
  xk_InvalidRatio_1:XClsN P K mg (He.ga K "InvalidRatio") ["given"] aa7 1 []
  xt:xtB K=true
  m_InvalidRatio:mg "InvalidRatio"=some (.ref (He.ga K "InvalidRatio"))
  m_InvalidNumber:mg "InvalidNumber"=some (.ref (He.ga K "InvalidNumber"))
  m_InvalidName:mg "InvalidName"=some (.ref (He.ga K "InvalidName"))
  m_DuplicateName:mg "DuplicateName"=some (.ref (He.ga K "DuplicateName"))
  m_InvalidRow:mg "InvalidRow"=some (.ref (He.ga K "InvalidRow"))
  m_InvalidLayer:mg "InvalidLayer"=some (.ref (He.ga K "InvalidLayer"))
  m_InvalidTable:mg "InvalidTable"=some (.ref (He.ga K "InvalidTable"))
  m_InvalidWay:mg "InvalidWay"=some (.ref (He.ga K "InvalidWay"))
  m_InvalidPlace:mg "InvalidPlace"=some (.ref (He.ga K "InvalidPlace"))
  m_InvalidPoint:mg "InvalidPoint"=some (.ref (He.ga K "InvalidPoint"))
  m_InvalidForm:mg "InvalidForm"=some (.ref (He.ga K "InvalidForm"))
  m_InvalidStep:mg "InvalidStep"=some (.ref (He.ga K "InvalidStep"))
  m_UnlikeEnds:mg "UnlikeEnds"=some (.ref (He.ga K "UnlikeEnds"))
  m_InvalidText:mg "InvalidText"=some (.ref (He.ga K "InvalidText"))
  m_InvalidFact:mg "InvalidFact"=some (.ref (He.ga K "InvalidFact"))
  m_UnlikeScripts:mg "UnlikeScripts"=some (.ref (He.ga K "UnlikeScripts"))
  m_UnlikeWorlds:mg "UnlikeWorlds"=some (.ref (He.ga K "UnlikeWorlds"))
  m_HasTests:mg "HasTests"=some (.ref (He.ga K "HasTests"))
  m_NoWorld:mg "NoWorld"=some (.ref (He.ga K "NoWorld"))
  m_InvalidCommand:mg "InvalidCommand"=some (.ref (He.ga K "InvalidCommand"))
  m_InvalidLimit:mg "InvalidLimit"=some (.ref (He.ga K "InvalidLimit"))
  m_Full:mg "Full"=some (.ref (He.ga K "Full"))
  m_InvalidPage:mg "InvalidPage"=some (.ref (He.ga K "InvalidPage"))
  m_TooMany:mg "TooMany"=some (.ref (He.ga K "TooMany"))
  m_UnknownName:mg "UnknownName"=some (.ref (He.ga K "UnknownName"))
  m_UnknownScript:mg "UnknownScript"=some (.ref (He.ga K "UnknownScript"))
  m_NothingLeft:mg "NothingLeft"=some (.ref (He.ga K "NothingLeft"))
  m_MilesError:mg "MilesError"=some (.ref (He.ga K "MilesError"))
  m_Missing:mg "Missing"=some (.ref (He.ga K "Missing"))
  n_IndexError:mg "IndexError"=none
  n_LookupError:mg "LookupError"=none
  n_ValueError:mg "ValueError"=none
  n_int:mg "int"=none
  n_isinstance:mg "isinstance"=none
  n_len:mg "len"=none
  n_list:mg "list"=none
  n_range:mg "range"=none
  n_repr:mg "repr"=none
  n_super:mg "super"=none
theorem afQ (ns:List Int) (lo hi:Option Int):cutV (ns.map V.int) lo hi=(cut ns lo hi).map V.int:=by
  unfold cutV cut
  rw [List.length_map,List.map_take,List.map_drop]
theorem afs {α:Type} {xs:List α} {n:Int} (h0:0<=n) (h1:n < (xs.length:Int)):∃ x,atI xs n=some x/\x∈xs:=by
  have hj:n.toNat < xs.length:=by omega
  refine ⟨xs[n.toNat],?_,List.getElem_mem hj⟩
  unfold atI ixN
  rw [if_pos h0,if_pos h1]
  exact List.getElem?_eq_getElem hj
theorem acD {n:Nat} (h:n<=szl):(n:Int) < 2 ^ 64:=by
  have:szl=16777216:=rfl
  omega
section
variable {P:Program} {w:World} {K:PySem.W.Frag} {mg:Str->Option Value} {base:Heap} {a:Nat->Addr} {d:Nat->FuncData}
abbrev afb:List Str:=["_law_script","_law_seed","_law_cell"]
theorem abr:FnScope afb ["_law_script"] (defScope aaP):=⟨rfl,rfl,rfl,by decide +kernel,rfl,by decide +kernel,by decide +kernel⟩
theorem aeL (T:Tx P K mg base a d):FnR P w K mg base 1 (a aaW) (d aaW) ["_law_script"] (spSource K):=by
  refine agF T.F__law_source abr (fun vs H Q E h=>?_) (fun cdv A outer s H vs Q E hr hg h=>?_)
  · obtain ⟨c,ns,rfl,_⟩:=h;rfl
  · obtain ⟨c,ns,rfl,hS,hlen,q⟩:=h
    refine ⟨_,pss_cons (ps_set (i:=1) abr.nd rfl (.inl rfl) pe_int)
      (pss_cons (ps_for (passes_of rfl) rfl (pi_list (pe_slice sl_list (pv 0) po_none (po_some pe_int))) (pg_name (i:=2) abr.nd rfl (.inl rfl))
        (pss_one (ps_set (i:=1) abr.nd rfl (.inl rfl) (pe_op op_mod (pe_callTy call_int1 (by rfl) T.n_int (by decide +kernel) (pa_cons (pe_op op_add (pe_op op_add (pe_op op_mul (pv 1) pe_int) (pe_op op_mod (pe_callTy call_int1 (by rfl) T.n_int (by decide +kernel) (pa_cons (pv 2) pa_nil)) pe_int)) pe_int) pa_nil)) pe_int))))
      (pss_one (ps_ret (pe_lst (pa_cons (pe_callTy call_list_of (by rfl) T.n_list (by decide +kernel) (pa_cons (pe_slice sl_list (pv 0) po_none (po_some pe_int)) pa_nil)) (pa_cons pe_int (pa_cons pe_int (pa_cons (pv 1) (pa_cons pe_int pa_nil))))))))),?_⟩
    refine ⟨.ref c,rfl,63,rfl,c,ns.map V.int,rfl,hS,fun l nl=>⟨l,rfl,⟨_,SqL.of upd_same⟩,?_⟩⟩
    refine for_list (K:=K) (a:=l) (xs:=cutV (ns.map V.int) none (some 63)) (fun i σ H2=>∃ sd v,σ=[some (.ref c),some (.int sd),v]/\Ex H H2/\H2 l=some (.lst (cutV (ns.map V.int) none (some 63)))/\0<=sd/\sd < 4294967296) ⟨10040,none,rfl,Ex.new nl,upd_same,by decide,by decide⟩ (fun i σ H2 _ ⟨_,_,_,_,e,_⟩=>SqL.of e) ?_ ?_
    · rintro i y σ H2 hi ⟨sd,v,rfl,ex,el,h0,h1⟩
      obtain ⟨z,rfl⟩:∃ z,y=V.int z:=by
        rw [afQ,List.getElem?_map] at hi
        cases e:(cut ns none (some 63))[i]? with
        | none=>rw [e] at hi;cases hi
        | some z=>rw [e] at hi;exact ⟨z,(Option.some.inj hi).symm⟩
      refine ⟨_,rfl,_,_,rfl,rfl,.inr ⟨by decide,by decide⟩,_,rfl,.inl ⟨z,rfl,_,_,rfl,rfl,(by show (0:Int) < 2147483353;decide),_,_,rfl,rfl,_,_,rfl,rfl,.inl ⟨_,rfl,_,_,rfl,rfl,(by show (0:Int) < 2147483587;decide),?_⟩⟩⟩
      refine ⟨_,_,rfl,ex,el,Int.emod_nonneg _ (by decide),Int.lt_trans (Int.emod_lt_of_pos _ (by decide)) (by decide)⟩
    · rintro σ H2 ⟨sd,v,rfl,ex,el,h0,h1⟩
      refine ⟨.ref c,rfl,63,rfl,c,ns.map V.int,rfl,ex_l ex hS,fun l2 n2=>⟨l2,_,rfl,.inl (SqL.of upd_same),fun l3 n3=>?_⟩⟩
      refine ⟨.int sd,rfl,by show 5<=sizeLine;decide,fun p np=>?_⟩
      have n23:H2 l3=none:=(Ex.new (o:=.lst (cutV (ns.map V.int) none (some 63))) n2).free n3
      have e3:Ex H2 (upd (upd (upd H2 l2 (.lst (cutV (ns.map V.int) none (some 63)))) l3 (.lst (cutV (ns.map V.int) none (some 63)))) p (.lst [.ref l3,.int 0,.int 0,.int sd,.int 0])):=(Ex.new n2).trans ((Ex.new n3).trans (Ex.new np))
      have ne:l3≠p:=fun e=>by subst e;rw [upd_same] at np;cases np
      refine q _ p l3 (cut ns none (some 63)) sd (ex.trans e3) ne upd_same (by rw [upd_ne ne,upd_same,afQ]) ?_ h0 h1
      exact Nat.le_trans (by unfold cut;rw [List.length_take,List.length_drop];omega) hlen
abbrev n__law_draw:List Str:=["_law_src","_law_many","_law_cell","_law_digit","_law_root","_law_grown"]
theorem abu:FnScope n__law_draw ["_law_src","_law_many"] (defScope aaR):=⟨rfl,rfl,rfl,by decide +kernel,rfl,by decide +kernel,by decide +kernel⟩
def SrcAt (p:Addr) (H H2:Hp) (c:Addr) (i r sd n:Int):Prop:=(∀ b,b≠p->H2 b=H b)/\H2 p=some (.lst [.ref c,.int i,.int r,.int sd,.int n])/\0<=i/\0<=r/\0<=sd/\sd < 4294967296
theorem af8 {m:Int} (h0:0 < m) (h:m < 2 ^ 64):m.natAbs.log2 < 9000:=by
  have:m.natAbs.log2 < 64:=(Nat.log2_lt (by omega)).mpr (by omega)
  omega
theorem afI {x m:Int} (h0:0 < m) (h:m<=4294967296):(-(2 ^ 64) < x % m/\x % m < 2 ^ 64)/\0<=x % m/\x % m < m:=by
  have h1:=Int.emod_nonneg x (show m≠0 by omega)
  have h2:=Int.emod_lt_of_pos x h0
  exact ⟨⟨by omega,by omega⟩,h1,h2⟩
theorem adO (T:Tx P K mg base a d):FnG P w K mg base 1 (a aaK) (d aaK) ["_law_src","_law_many"] spDraw:=by
  refine FnR.g (agF T.F__law_draw abu (fun vs H Q E h=>?_) (fun cdv A outer s H vs Q E hr hg h=>?_)) (fun args Q E h=>?_)
  · obtain ⟨G,so,as,QD,ED,_,w1,⟨m,rfl,_⟩,_⟩:=h
    exact w1.length
  · obtain ⟨G,so,as,QD,ED,hrep,w1,⟨m,rfl,hm0,hm1,hq⟩,hQ,_⟩:=h
    obtain ⟨v1,v2,rfl,⟨p,⟨c,hps⟩,rfl⟩,wm,_⟩:=w1.v2
    cases wm
    obtain ⟨gp,ms,i0,r0,sd0,n0,hp,hc,hms,hi0,hr0,hs0,hs1⟩:SrcOk K G H p c:=hrep.vol p (.src c) hps
    have fin:∀ (H2:Hp) (i r sd n k:Int),SrcAt p H H2 c i r sd n->0<=k->k < m->Q (.int k) H2:=fun H2 i r sd n k ⟨e1,e2,e3,e4,e5,e6⟩ k0 k1=>by
      refine hQ (.int k) H2 G (.d (.int k)) ⟨Ex.refl G,⟨fun b o e=>?_,fun b kd e=>?_,hrep.ok,fun b xs e=>?_⟩,fun b o e sb=>?_,fun _ _ g _=>g,.int k,fun _ _ z=>(nomatch z),fun _ z=>(nomatch z)⟩ (hq k k0 k1)
      · rw [e1 b (fun z=>by subst z;rw [gp] at e;cases e)];exact hrep.ex b o e
      · by_cases z:b=p
        · subst z
          obtain rfl:=hrep.ok.uq _ _ _ e hps
          exact ⟨gp,ms,i,r,sd,n,e2,hc,hms,e3,e4,e5,e6⟩
        · exact (hrep.vol b kd e).keep (Ex.refl G) (hrep.vol b kd e).g (e1 b z)
      · by_cases z:b=p
        · subst z;rw [e2] at e;cases e
        · rw [e1 b z] at e;exact hrep.tp b xs e
      · rw [e1 b (fun z=>by subst z;obtain ⟨_,q⟩:=sb (.src c) hps;cases q)];exact e
    have cells:∀ {H2:Hp},(∀ b,b≠p->H2 b=H b)->SqL K H2 c (ms.map V.int):=fun {H2} e1=>ex_l (fun b o e=>by
      rw [e1 b (fun z=>by subst z;rw [gp] at e;cases e)];exact hrep.ex b o e) hc
    obtain ⟨t2,pt2,key⟩:∃ t2,PSs (cxOf (L2N.CX P w) P w K mg base n__law_draw "_law_draw" (defScope aaR) (a aaK) cdv A outer s H E) ((defBody aaR).drop 1) t2/\
        ∀ (H2:Hp) (i r sd n:Int) (y:Option V),SrcAt p H H2 c i r sd n->t2 { nx:=fun _ H'=>Q .non H',rt:=Q } [some (.ref p),some (.int m),y,none,none,none] H2:=by
      refine ⟨_,pss_cons (ps_if (pt_cmpR op_ge (pe_ix ix_list (pv 0) pe_int (fun _ _=>rfl)) (pv 1) (nomark _))
          (pss_cons (ps_set (i:=3) abu.nd rfl (.inl rfl) (pe_op op_mod (pe_callTy call_int1 (by rfl) T.n_int (by decide +kernel) (pa_cons (pe_ix ix_list (pv 0) pe_int (fun _ _=>rfl)) pa_nil)) (pv 1)))
          (pss_cons (ps_asg (pe_op op_fdivW (pe_ix ix_list (pv 0) pe_int (fun _ _=>rfl)) (pv 1)) (pg_sub (pv 0) pe_int set_list))
          (pss_one (ps_ret (pv 3))))) pss_nil)
        (pss_cons (ps_asg (pe_op op_add (pe_ix ix_list (pv 0) pe_int (fun _ _=>rfl)) pe_int) (pg_sub (pv 0) pe_int set_list))
        (pss_cons (ps_set (i:=4) abu.nd rfl (.inl rfl) (pe_op op_mod (pe_callTy call_int1 (by rfl) T.n_int (by decide +kernel) (pa_cons (pe_op op_add (pe_ix ix_list (pv 0) pe_int (fun _ _=>rfl)) (pe_op op_mul (pe_ix ix_list (pv 0) pe_int (fun _ _=>rfl)) pe_int)) pa_nil)) pe_int))
        (pss_cons (ps_set (i:=5) abu.nd rfl (.inl rfl) (pe_op op_mul (pe_op op_mod (pe_callTy call_int1 (by rfl) T.n_int (by decide +kernel) (pa_cons (pe_op op_mul (pv 4) (pv 4)) pa_nil)) pe_int) (pe_op op_add (pe_op op_mod (pe_callTy call_int1 (by rfl) T.n_int (by decide +kernel) (pa_cons (pv 4) pa_nil)) pe_int) pe_int)))
        (pss_cons (ps_asg (pe_op op_mod (pe_callTy call_int1 (by rfl) T.n_int (by decide +kernel) (pa_cons (pe_op op_add (pe_op op_add (pv 5) (pe_op op_mul pe_int (pv 4))) pe_int) pa_nil)) pe_int) (pg_sub (pv 0) pe_int set_list))
        (pss_one (ps_ret (pe_op op_mod (pe_callTy call_int1 (by rfl) T.n_int (by decide +kernel) (pa_cons (pe_op op_add (pe_op op_fdiv (pe_ix ix_list (pv 0) pe_int (fun _ _=>rfl)) pe_int) (pe_op op_mul (pe_op op_mod (pe_callTy call_int1 (by rfl) T.n_int (by decide +kernel) (pa_cons (pe_ix ix_list (pv 0) pe_int (fun _ _=>rfl)) pa_nil)) pe_int) pe_int)) pa_nil)) (pv 1)))))))),?_⟩
      rintro H2 i r sd n y ⟨e1,e2,e3,e4,e5,e6⟩
      have e2L:SqL K H2 p [.ref c,.int i,.int r,.int sd,.int n]:=SqL.of e2
      refine ⟨.ref p,rfl,p,_,2,.int r,rfl,rfl,e2L,rfl,.int m,rfl,r,m,rfl,rfl,_,rfl,ite2 (fun h=>?_) (fun h=>?_)⟩
      · have hrm:m<=r:=of_decide_eq_true h
        refine ⟨.ref p,rfl,p,_,2,.int r,rfl,rfl,e2L,rfl,.inl ⟨r,rfl,.int m,rfl,r,m,rfl,rfl,hm0,?_⟩⟩
        refine ⟨.ref p,rfl,p,_,2,.int r,rfl,rfl,e2L,rfl,.int m,rfl,r,m,rfl,rfl,⟨hm0,af8 hm0 hm1⟩,.ref p,rfl,p,_,2,2,rfl,rfl,e2,rfl,?_⟩
        refine ⟨.int (r % m),rfl,?_⟩
        refine fin _ i (r / m) sd n (r % m) ⟨fun b hb=>by rw [upd_ne hb];exact e1 b hb,upd_same,e3,Int.ediv_nonneg e4 (by omega),e5,e6⟩ (Int.emod_nonneg _ (by omega)) (Int.emod_lt_of_pos _ hm0)
      · refine ⟨.ref p,rfl,p,_,4,.int n,rfl,rfl,e2L,rfl,n,1,rfl,rfl,.ref p,rfl,p,_,4,4,rfl,rfl,e2,rfl,?_⟩
        have e3L:SqL K (upd H2 p (.lst ([V.ref c,.int i,.int r,.int sd,.int n].set 4 (.int (n + 1))))) p [.ref c,.int i,.int r,.int sd,.int (n + 1)]:=SqL.of upd_same
        refine ⟨.ref p,rfl,p,_,3,.int sd,rfl,rfl,e3L,rfl,.ref p,rfl,p,_,4,.int (n + 1),rfl,rfl,e3L,rfl,n + 1,9431,rfl,rfl,.inr ⟨by decide,by decide⟩,sd,_,rfl,rfl,.inl ⟨_,rfl,_,2147483629,rfl,rfl,(by show (0:Int) < 2147483629;decide),?_⟩⟩
        obtain ⟨q1,q2,q3⟩:=afI (x:=sd + (n + 1) * 9431) (m:=2147483629) (by decide) (by decide)
        refine ⟨_,rfl,_,rfl,_,_,rfl,rfl,.inl q1,.inl ⟨_,rfl,_,2147483399,rfl,rfl,(by show (0:Int) < 2147483399;decide),_,rfl,.inl ⟨_,rfl,_,39989,rfl,rfl,(by show (0:Int) < 39989;decide),_,9,rfl,rfl,_,_,rfl,rfl,.inl (afI (by decide) (by decide)).1,?_⟩⟩⟩
        refine ⟨_,rfl,_,rfl,29989,_,rfl,rfl,.inl ⟨by decide,by decide⟩,_,_,rfl,rfl,_,991,rfl,rfl,.inl ⟨_,rfl,_,2147483549,rfl,rfl,(by show (0:Int) < 2147483549;decide),.ref p,rfl,p,_,3,3,rfl,rfl,upd_same,rfl,?_⟩⟩
        generalize hg2:((sd + (n + 1) * 9431) % 2147483629 * ((sd + (n + 1) * 9431) % 2147483629) % 2147483399 * ((sd + (n + 1) * 9431) % 2147483629 % 39989 + 9) + 29989 * ((sd + (n + 1) * 9431) % 2147483629) + 991) % 2147483549=sd2
        have s2:0<=sd2:=by rw [<- hg2];exact Int.emod_nonneg _ (by decide)
        have s3:sd2 < 4294967296:=by rw [<- hg2];exact Int.lt_trans (Int.emod_lt_of_pos _ (by decide)) (by decide)
        dsimp only
        rw [hg2,upd_upd]
        have e4L:SqL K (upd H2 p (.lst (([V.ref c,.int i,.int r,.int sd,.int n].set 4 (.int (n + 1))).set 3 (.int sd2)))) p [.ref c,.int i,.int r,.int sd2,.int (n + 1)]:=SqL.of upd_same
        refine ⟨.ref p,rfl,p,_,3,.int sd2,rfl,rfl,e4L,rfl,sd2,73,rfl,rfl,⟨by decide,by decide⟩,.ref p,rfl,p,_,3,.int sd2,rfl,rfl,e4L,rfl,.inl ⟨sd2,rfl,sd2,8521,rfl,rfl,(by show (0:Int) < 8521;decide),_,57,rfl,rfl,.inr ⟨by decide,by decide⟩,_,_,rfl,rfl,.inl ⟨_,rfl,.int m,rfl,_,m,rfl,rfl,hm0,?_⟩⟩⟩
        exact fin _ i r sd2 (n + 1) _ ⟨fun b hb=>by rw [upd_ne hb];exact e1 b hb,upd_same,e3,e4,s2,s3⟩ (Int.emod_nonneg _ (by omega)) (Int.emod_lt_of_pos _ hm0)
    refine ⟨_,pss_cons (ps_if (PW.pt (pw_and (pt_cmpR op_lt (pe_ix ix_list (pv 0) pe_int (fun _ _=>rfl)) (pv 1) (nomark _)) (pw_and1 (pt_cmpR op_lt (pe_ix ix_list (pv 0) pe_int (fun _ _=>rfl)) (pe_callB call_len_seq (by rfl) T.n_len PySem.boot_len (pa_cons (pe_ix ix_list (pv 0) pe_int (fun _ _=>rfl)) pa_nil)) (nomark _)))))
        (pss_cons (ps_set (i:=2) abu.nd rfl (.inl rfl) (pe_ix ix_list (pe_ix ix_list (pv 0) pe_int (fun _ _=>rfl)) (pe_ix ix_list (pv 0) pe_int (fun _ _=>rfl)) (fun _ _=>rfl)))
        (pss_cons (ps_asg (pe_op op_add (pe_ix ix_list (pv 0) pe_int (fun _ _=>rfl)) pe_int) (pg_sub (pv 0) pe_int set_list))
        (pss_cons (ps_asg (pe_op op_mod (pe_callTy call_int1 (by rfl) T.n_int (by decide +kernel) (pa_cons (pe_op op_add (pe_op op_add (pe_op op_mul (pe_ix ix_list (pv 0) pe_int (fun _ _=>rfl)) pe_int) (pe_op op_mod (pe_callTy call_int1 (by rfl) T.n_int (by decide +kernel) (pa_cons (pv 2) pa_nil)) pe_int)) pe_int) pa_nil)) pe_int) (pg_sub (pv 0) pe_int set_list))
        (pss_one (ps_asg (pe_ifExp (pt_cmpR op_ge (pv 2) (pe_op op_pow pe_int pe_int) (nomark _)) (pv 2) pe_int) (pg_sub (pv 0) pe_int set_list)))))) pss_nil) pt2,?_⟩
    have hpL:SqL K H p [.ref c,.int i0,.int r0,.int sd0,.int n0]:=SqL.of hp
    have S0:SrcAt p H H c i0 r0 sd0 n0:=⟨fun _ _=>rfl,hp,hi0,hr0,hs0,hs1⟩
    refine ⟨.ref p,rfl,p,_,2,.int r0,rfl,rfl,hpL,rfl,.int m,rfl,r0,m,rfl,rfl,_,rfl,ite2 (fun h=>?_) (fun h=>?_)⟩
    · refine ⟨.ref p,rfl,p,_,1,.int i0,rfl,rfl,hpL,rfl,.ref p,rfl,p,_,0,.ref c,rfl,rfl,hpL,rfl,c,ms.map V.int,rfl,.inl (cells fun _ _=>rfl),i0,_,rfl,rfl,_,rfl,ite2 (fun h2=>?_) (fun h2=>?_)⟩
      · have hlt:i0 < ((ms.map V.int).length:Int):=of_decide_eq_true h2
        rw [List.length_map] at hlt
        have hj:i0.toNat < ms.length:=by omega
        have atc:atI (ms.map V.int) i0=some (.int ms[i0.toNat]):=at_of (j:=i0.toNat) (by omega) (by rw [List.getElem?_map,List.getElem?_eq_getElem hj];rfl)
        generalize ms[i0.toNat]=z at atc
        refine ⟨.ref p,rfl,p,_,0,.ref c,rfl,rfl,hpL,rfl,.ref p,rfl,p,_,1,.int i0,rfl,rfl,hpL,rfl,c,_,i0,.int z,rfl,rfl,cells (fun _ _=>rfl),atc,?_⟩
        refine ⟨.ref p,rfl,p,_,1,.int i0,rfl,rfl,hpL,rfl,i0,1,rfl,rfl,.ref p,rfl,p,_,1,1,rfl,rfl,hp,rfl,?_⟩
        have e3L:SqL K (upd H p (.lst ([V.ref c,.int i0,.int r0,.int sd0,.int n0].set 1 (.int (i0 + 1))))) p [.ref c,.int (i0 + 1),.int r0,.int sd0,.int n0]:=SqL.of upd_same
        refine ⟨.ref p,rfl,p,_,3,.int sd0,rfl,rfl,e3L,rfl,sd0,46757,rfl,rfl,.inr ⟨by decide,by decide⟩,.int z,rfl,.inl ⟨z,rfl,z,2147483323,rfl,rfl,(by show (0:Int) < 2147483323;decide),_,_,rfl,rfl,_,31,rfl,rfl,.inl ⟨_,rfl,_,2147483549,rfl,rfl,(by show (0:Int) < 2147483549;decide),.ref p,rfl,p,_,3,3,rfl,rfl,upd_same,rfl,?_⟩⟩⟩
        generalize hg2:(sd0 * 46757 + z % 2147483323 + 31) % 2147483549=sd2
        have s2:0<=sd2:=by rw [<- hg2];exact Int.emod_nonneg _ (by decide)
        have s3:sd2 < 4294967296:=by rw [<- hg2];exact Int.lt_trans (Int.emod_lt_of_pos _ (by decide)) (by decide)
        dsimp only
        rw [hg2,upd_upd]
        refine ⟨.int z,rfl,10,18,rfl,rfl,⟨by decide,by decide,by decide⟩,z,_,rfl,rfl,_,rfl,ite2 (fun h3=>?_) (fun h3=>?_)⟩
        · have hz:(10:Int) ^ (18:Int).toNat<=z:=of_decide_eq_true h3
          refine ⟨.int z,rfl,.ref p,rfl,p,_,2,2,rfl,rfl,upd_same,rfl,?_⟩
          rw [upd_upd]
          exact key _ (i0 + 1) z sd2 n0 (some (.int z)) ⟨fun b hb=>upd_ne hb,upd_same,by omega,Int.le_trans (by decide) hz,s2,s3⟩
        · refine ⟨.ref p,rfl,p,_,2,2,rfl,rfl,upd_same,rfl,?_⟩
          rw [upd_upd]
          exact key _ (i0 + 1) 0 sd2 n0 (some (.int z)) ⟨fun b hb=>upd_ne hb,upd_same,by omega,by decide,s2,s3⟩
      · exact key H i0 r0 sd0 n0 none S0
    · refine iteF ?_
      exact key H i0 r0 sd0 n0 none S0
  · obtain ⟨m,rfl,_⟩:=h;rfl
theorem abU (T:Tx P K mg base a d):Bd K (d aaK) ["_law_src","_law_many"] 2 [] [.pos 0,.pos 1]:=
  af1 T.F__law_draw (fun us ws=>match us,ws with | [u0,u1],[]=>[u0,u1] | _,_=>[])
    (fun _ _ _ _ _ _ us ws h1 h2=>match us,ws,h1,h2 with | [_,_],[],_,_=>rfl)
    (fun vs qs us ws h1 h2 r1 r2=>match vs,us,qs,ws,h1,h2,r1,r2 with | _,[_,_],_,[],_,_,.cons u0 (.cons u1 .nil),.nil=>.cons u0 (.cons u1 .nil)) (fun s h v d e=>by subst e;simp at h)
theorem aes (T:Tx P K mg base a d):Bd K (d aaN) ["_law_e"] 1 [] [.pos 0]:=
  af1 T.F__law_fields (fun us ws=>match us,ws with | [u0],[]=>[u0] | _,_=>[])
    (fun _ _ _ _ _ _ us ws h1 h2=>match us,ws,h1,h2 with | [_],[],_,_=>rfl)
    (fun vs qs us ws h1 h2 r1 r2=>match vs,us,qs,ws,h1,h2,r1,r2 with | _,[_],_,[],_,_,.cons u0 .nil,.nil=>.cons u0 .nil) (fun s h v d e=>by subst e;simp at h)
theorem acf (T:Tx P K mg base a d):Bd K (d aap) ["_law_e"] 1 [] [.pos 0]:=
  af1 T.F__law_first_classes (fun us ws=>match us,ws with | [u0],[]=>[u0] | _,_=>[])
    (fun _ _ _ _ _ _ us ws h1 h2=>match us,ws,h1,h2 with | [_],[],_,_=>rfl)
    (fun vs qs us ws h1 h2 r1 r2=>match vs,us,qs,ws,h1,h2,r1,r2 with | _,[_],_,[],_,_,.cons u0 .nil,.nil=>.cons u0 .nil) (fun s h v d e=>by subst e;simp at h)
theorem acH (T:Tx P K mg base a d):Bd K (d aar) ["_law_e"] 1 [] [.pos 0]:=
  af1 T.F__law_last_classes (fun us ws=>match us,ws with | [u0],[]=>[u0] | _,_=>[])
    (fun _ _ _ _ _ _ us ws h1 h2=>match us,ws,h1,h2 with | [_],[],_,_=>rfl)
    (fun vs qs us ws h1 h2 r1 r2=>match vs,us,qs,ws,h1,h2,r1,r2 with | _,[_],_,[],_,_,.cons u0 .nil,.nil=>.cons u0 .nil) (fun s h v d e=>by subst e;simp at h)
theorem adk (T:Tx P K mg base a d):Bd K (d abv) ["_law_src","_law_some"] 2 [] [.pos 0,.pos 1]:=
  af1 T.F__law_of (fun us ws=>match us,ws with | [u0,u1],[]=>[u0,u1] | _,_=>[])
    (fun _ _ _ _ _ _ us ws h1 h2=>match us,ws,h1,h2 with | [_,_],[],_,_=>rfl)
    (fun vs qs us ws h1 h2 r1 r2=>match vs,us,qs,ws,h1,h2,r1,r2 with | _,[_,_],_,[],_,_,.cons u0 (.cons u1 .nil),.nil=>.cons u0 (.cons u1 .nil)) (fun s h v d e=>by subst e;simp at h)
theorem adD (T:Tx P K mg base a d):Bd K (d aaT) ["_law_found","_law_due"] 2 [] [.pos 0,.pos 1]:=
  af1 T.F__law_same (fun us ws=>match us,ws with | [u0,u1],[]=>[u0,u1] | _,_=>[])
    (fun _ _ _ _ _ _ us ws h1 h2=>match us,ws,h1,h2 with | [_,_],[],_,_=>rfl)
    (fun vs qs us ws h1 h2 r1 r2=>match vs,us,qs,ws,h1,h2,r1,r2 with | _,[_,_],_,[],_,_,.cons u0 (.cons u1 .nil),.nil=>.cons u0 (.cons u1 .nil)) (fun s h v d e=>by subst e;simp at h)
abbrev agu:List Str:=["_law_src","_law_some"]
theorem afX:FnScope agu ["_law_src","_law_some"] (defScope abC):=⟨rfl,rfl,rfl,by decide +kernel,rfl,by decide +kernel,by decide +kernel⟩
theorem afZ (T:Tx P K mg base a d):FnG P w K mg base 2 (a abv) (d abv) ["_law_src","_law_some"] spOf:=by
  have G__law_draw:FnG P w K mg base 1 (a aaK) (d aaK) ["_law_src","_law_many"] spDraw:=adO T
  refine aht T.F__law_of afX (fun args Q E h=>?_) (fun args Q E h=>?_) (fun cdv A outer s H E hr hg=>(abg (abf (de_ix ix_seq aie (adB (pv 1)) (acG G__law_draw (hr.mono (by decide)) hg (tkOf rfl rfl rfl rfl) (abU T) (by rfl) T.m__law_draw T.F__law_draw.kp (aaa (aaG (pv 0)) (aaa (afh call_len ahK (by rfl) T.n_len PySem.boot_len (aaa (adB (pv 1)) aab)) aab))) (fun _ _=>rfl))))) (fun args Q E h=>?_)
  · obtain ⟨x,rfl,_⟩:=h;rfl
  · obtain ⟨x,rfl,hx,_⟩:=h
    intro i o z
    match i with
    | 0=>cases z
    | 1=>exact hx o (Option.some.inj z)
    | i + 2=>simp at z
  · obtain ⟨x,rfl,hx,h⟩:=h
    cases x with
    | src=>exact h.elim
    | mu _ _ _=>exact h.elim
    | gh _ _=>exact h.elim
    | own o=>
      cases o with
      | lst ds=>
        obtain ⟨h1,h2,h3⟩:=h
        refine agz rfl ?_
        refine ⟨rfl,rfl,_,rfl,by omega,acD h2,fun n h0 h4=>?_⟩
        obtain ⟨y,e1,e2⟩:=afs h0 h4
        exact ahV rfl e1 (h3 y e2)
      | ins _ _ _=>exact h.elim
      | dk _=>exact h.elim
      | dt _=>exact h.elim
    | bor o=>
      cases o with
      | lst ds=>
        obtain ⟨h1,h2,h3⟩:=h
        refine agz rfl ?_
        refine ⟨rfl,rfl,_,rfl,by omega,acD h2,fun n h0 h4=>?_⟩
        obtain ⟨y,e1,e2⟩:=afs h0 h4
        exact ahV rfl e1 (h3 y e2)
      | ins _ _ _=>exact h.elim
      | dk _=>exact h.elim
      | dt _=>exact h.elim
    | see o=>exact absurd rfl (hx o)
    | d y=>
      cases y with
      | str z=>
        obtain ⟨h1,h2,h3⟩:=h
        refine aim h2 ?_
        refine ⟨rfl,rfl,_,rfl,by omega,acD h2,fun n h0 h4=>?_⟩
        obtain ⟨y,e1,e2⟩:=afs (xs:=z.cps.toList) h0 (by simpa [Str.length] using h4)
        exact l_ixS h2 e1 (h3 y e2)
      | tup ds=>
        obtain ⟨h1,h2,h3⟩:=h
        refine ail ?_
        refine ⟨rfl,rfl,_,rfl,by omega,acD h2,fun n h0 h4=>?_⟩
        obtain ⟨y,e1,e2⟩:=afs h0 h4
        exact l_ixT e1 (h3 y e2)
      | lst ds=>
        obtain ⟨h1,h2,h3⟩:=h
        refine agz rfl ?_
        refine ⟨rfl,rfl,_,rfl,by omega,acD h2,fun n h0 h4=>?_⟩
        obtain ⟨y,e1,e2⟩:=afs h0 h4
        exact ahV rfl e1 (h3 y e2)
      | non=>exact h.elim
      | bl _=>exact h.elim
      | int _=>exact h.elim
      | ins _ _=>exact h.elim
      | dk _=>exact h.elim
      | dt _=>exact h.elim
      | any=>exact h.elim
      | raw _=>exact h.elim
      | kt _=>exact h.elim
abbrev afv:List Str:=["_law_found","_law_due"]
theorem afk:FnScope afv ["_law_found","_law_due"] (defScope aa4):=⟨rfl,rfl,rfl,by decide +kernel,rfl,by decide +kernel,by decide +kernel⟩
theorem afm (T:Tx P K mg base a d):FnG P w K mg base 1 (a aaT) (d aaT) ["_law_found","_law_due"] spSame:=by
  refine aht T.F__law_same afk (fun args Q E h=>?_) (fun args Q E h=>?_) (fun cdv A outer s H E hr hg=>(abg (abf (agL (abH hr.units) adN (afh (aeY hg (ahm hr)) afF (by rfl) T.n_repr (by decide +kernel) (aaa (adB (pv 0)) aab)) (afh (aeY hg (ahm hr)) afF (by rfl) T.n_repr (by decide +kernel) (aaa (adB (pv 1)) aab)) (nomark _))))) (fun args Q E h=>?_)
  · obtain ⟨_,_,_,_,rfl,_⟩:=h;rfl
  · obtain ⟨_,_,_,_,rfl,_⟩:=h
    intro i o z
    match i with
    | 0=>cases z
    | 1=>cases z
    | i + 2=>simp at z
  · obtain ⟨d1,d2,p,q,rfl,s1,s2,h⟩:=h
    show reprR [.d d1] (fun x=>reprR [.d d2] (fun y=>eqR false x y (retQ Q)))
    exact agk s1 (agk s2 (af0 h))
end
section
variable {P:Program} {w:World} {K:PySem.W.Frag} {mg:Str->Option Value} {base:Heap} {a:Nat->Addr} {d:Nat->FuncData}
abbrev afc:List Str:=["_law_e"]
theorem aeK:FnScope afc ["_law_e"] (defScope aaQ):=⟨rfl,rfl,rfl,by decide +kernel,rfl,by decide +kernel,by decide +kernel⟩
theorem aeM (T:Tx P K mg base a d):FnR P w K mg base 2 (a aaN) (d aaN) ["_law_e"] (upC K (fun args Q=>∃ (xa C:Addr) (fs:List (Str × D)),args=[excD xa C fs]/\(∃ (c:Str) (xs:List D),fs.lookup ("code":Str)=some (.str c)/\DL.fieldsOf c fs=some xs/\Q (.tup xs)))):=by
  refine agG T.F__law_fields aeK (by rintro _ _ ⟨xa,C,fs,rfl,h⟩;rfl) (by rintro _ _ ⟨xa,C,fs,rfl,h⟩ i o ei;rcases i with _ | _<;>simp at ei) (fun cdv A outer s H E hr hg=>(aaO (ad1 (ab8 acK aeW (aaS (pv 0)) (aaU (aaa aad (aaa aad (aaa aad (aaa aad (aaa aad (aaa aad (aaa aad (aaa aad aab))))))))) (by rfl)) (abg (abf (aaU (aaa (aaS (pv 0)) aab)))) ab9)
      (aaO (ad1 (ab8 acK aeW (aaS (pv 0)) (aaU (aaa aad (aaa aad (aaa aad aab)))) (by rfl)) (abg (abf (aaU (aaa (aaS (pv 0)) aab)))) ab9)
      (aaO (ad1 (ab8 acK aeW (aaS (pv 0)) (aaU (aaa aad (aaa aad aab))) (by rfl)) (abg (abf (aaU (aaa (aaS (pv 0)) aab)))) ab9)
      (aaO (ad1 (ab8 acK aeW (aaS (pv 0)) (aaU (aaa aad (aaa aad aab))) (by rfl)) (abg (abf (aaU (aaa (aaS (pv 0)) aab)))) ab9)
      (aaO (ad1 (ab8 acK aeW (aaS (pv 0)) (aaU (aaa aad (aaa aad aab))) (by rfl)) (abg (abf (aaU (aaa (aaS (pv 0)) aab)))) ab9)
      (aaO (ad1 (ab8 (abH hr.units) adN (aaS (pv 0)) aad (nomark _)) (abg (abf (aaU (aaa (aaS (pv 0)) aab)))) ab9)
      (aaO (ad1 (ab8 (abH hr.units) adN (aaS (pv 0)) aad (nomark _)) (abg (abf (aaU (aaa (aaS (pv 0)) (aaa (aaS (pv 0)) (aaa (aaS (pv 0)) aab)))))) ab9)
      (aaO (ad1 (ab8 (abH hr.units) adN (aaS (pv 0)) aad (nomark _)) (abg (abf (aaU (aaa (aaS (pv 0)) aab)))) ab9)
      (aaO (ad1 (ab8 (abH hr.units) adN (aaS (pv 0)) aad (nomark _)) (abg (abf (aaU (aaa (aaS (pv 0)) aab)))) ab9)
      (abg (abf (ahA (ab8 (abH hr.units) adN (aaS (pv 0)) aad (nomark _)) (aaU (aaa (aaS (pv 0)) (aaa (aaS (pv 0)) aab))) (aaU aab)))))))))))))) (fun args Q h=>?_)
  obtain ⟨xa,C,fs,rfl,h⟩:=h
  obtain ⟨c,xs,hc,hf,h⟩:=h
  refine abB rfl (by decide) hc (abE rfl rfl (agA rfl rfl ?_))
  show Br (inF (.str c) ((["InvalidRatio","InvalidNumber","InvalidName","InvalidLayer","InvalidPlace","InvalidPoint","InvalidForm","InvalidLimit"]:List Str).map D.str)) _ _
  rw [abS]
  by_cases m0:c∈(["InvalidRatio","InvalidNumber","InvalidName","InvalidLayer","InvalidPlace","InvalidPoint","InvalidForm","InvalidLimit"]:List Str)
  · rw [decide_eq_true m0]
    refine brT ?_
    have hf2:(fs.lookup ("given":Str)).map (fun v=>[v])=some xs:=by rw [<- hf];unfold DL.fieldsOf;rw [if_pos m0]
    obtain ⟨v,hv,rfl⟩:=Option.map_eq_some_iff.mp hf2
    exact abB rfl (by decide) hv (abE rfl rfl (.inl ⟨_,rfl,h⟩))
  rw [decide_eq_false m0]
  refine brF ?_
  dsimp only [dNext]
  refine abB rfl (by decide) hc (abE rfl rfl (agA rfl rfl ?_))
  show Br (inF (.str c) ((["InvalidRow","InvalidFact","InvalidCommand"]:List Str).map D.str)) _ _
  rw [abS]
  by_cases m1:c∈(["InvalidRow","InvalidFact","InvalidCommand"]:List Str)
  · rw [decide_eq_true m1]
    refine brT ?_
    have hf2:(fs.lookup ("at":Str)).map (fun v=>[v])=some xs:=by rw [<- hf];unfold DL.fieldsOf;rw [if_neg m0,if_pos m1]
    obtain ⟨v,hv,rfl⟩:=Option.map_eq_some_iff.mp hf2
    exact abB rfl (by decide) hv (abE rfl rfl (.inl ⟨_,rfl,h⟩))
  rw [decide_eq_false m1]
  refine brF ?_
  dsimp only [dNext]
  refine abB rfl (by decide) hc (abE rfl rfl (agA rfl rfl ?_))
  show Br (inF (.str c) ((["InvalidStep","UnlikeEnds"]:List Str).map D.str)) _ _
  rw [abS]
  by_cases m2:c∈(["InvalidStep","UnlikeEnds"]:List Str)
  · rw [decide_eq_true m2]
    refine brT ?_
    have hf2:(fs.lookup ("path":Str)).map (fun v=>[v])=some xs:=by rw [<- hf];unfold DL.fieldsOf;rw [if_neg m0,if_neg m1,if_pos m2]
    obtain ⟨v,hv,rfl⟩:=Option.map_eq_some_iff.mp hf2
    exact abB rfl (by decide) hv (abE rfl rfl (.inl ⟨_,rfl,h⟩))
  rw [decide_eq_false m2]
  refine brF ?_
  dsimp only [dNext]
  refine abB rfl (by decide) hc (abE rfl rfl (agA rfl rfl ?_))
  show Br (inF (.str c) ((["DuplicateName","UnknownName"]:List Str).map D.str)) _ _
  rw [abS]
  by_cases m3:c∈(["DuplicateName","UnknownName"]:List Str)
  · rw [decide_eq_true m3]
    refine brT ?_
    have hf2:(fs.lookup ("name":Str)).map (fun v=>[v])=some xs:=by rw [<- hf];unfold DL.fieldsOf;rw [if_neg m0,if_neg m1,if_neg m2,if_pos m3]
    obtain ⟨v,hv,rfl⟩:=Option.map_eq_some_iff.mp hf2
    exact abB rfl (by decide) hv (abE rfl rfl (.inl ⟨_,rfl,h⟩))
  rw [decide_eq_false m3]
  refine brF ?_
  dsimp only [dNext]
  refine abB rfl (by decide) hc (abE rfl rfl (agA rfl rfl ?_))
  show Br (inF (.str c) ((["InvalidText","UnknownScript"]:List Str).map D.str)) _ _
  rw [abS]
  by_cases m4:c∈(["InvalidText","UnknownScript"]:List Str)
  · rw [decide_eq_true m4]
    refine brT ?_
    have hf2:(fs.lookup ("word":Str)).map (fun v=>[v])=some xs:=by rw [<- hf];unfold DL.fieldsOf;rw [if_neg m0,if_neg m1,if_neg m2,if_neg m3,if_pos m4]
    obtain ⟨v,hv,rfl⟩:=Option.map_eq_some_iff.mp hf2
    exact abB rfl (by decide) hv (abE rfl rfl (.inl ⟨_,rfl,h⟩))
  rw [decide_eq_false m4]
  refine brF ?_
  dsimp only [dNext]
  refine abB rfl (by decide) hc (af0 ?_)
  show Br (decide (c=("InvalidTable":Str))) _ _
  by_cases m5:c=("InvalidTable":Str)
  · rw [decide_eq_true m5]
    refine brT ?_
    have hf2:(fs.lookup ("layer":Str)).map (fun v=>[v])=some xs:=by rw [<- hf];unfold DL.fieldsOf;rw [if_neg m0,if_neg m1,if_neg m2,if_neg m3,if_neg m4,if_pos m5]
    obtain ⟨v,hv,rfl⟩:=Option.map_eq_some_iff.mp hf2
    exact abB rfl (by decide) hv (abE rfl rfl (.inl ⟨_,rfl,h⟩))
  rw [decide_eq_false m5]
  refine brF ?_
  dsimp only [dNext]
  refine abB rfl (by decide) hc (af0 ?_)
  show Br (decide (c=("InvalidWay":Str))) _ _
  by_cases m6:c=("InvalidWay":Str)
  · rw [decide_eq_true m6]
    refine brT ?_
    have hf2:=hf
    unfold DL.fieldsOf at hf2
    rw [if_neg m0,if_neg m1,if_neg m2,if_neg m3,if_neg m4,if_neg m5,if_pos m6] at hf2
    split at hf2
    · rename_i x1 x2 x3 h1 h2 h3
      cases hf2
      exact abB rfl (by decide) h1 (abB rfl (by decide) h2 (abB rfl (by decide) h3 (abE rfl rfl (.inl ⟨_,rfl,h⟩))))
    · cases hf2
  rw [decide_eq_false m6]
  refine brF ?_
  dsimp only [dNext]
  refine abB rfl (by decide) hc (af0 ?_)
  show Br (decide (c=("Full":Str))) _ _
  by_cases m7:c=("Full":Str)
  · rw [decide_eq_true m7]
    refine brT ?_
    have hf2:(fs.lookup ("limit":Str)).map (fun v=>[v])=some xs:=by rw [<- hf];unfold DL.fieldsOf;rw [if_neg m0,if_neg m1,if_neg m2,if_neg m3,if_neg m4,if_neg m5,if_neg m6,if_pos m7]
    obtain ⟨v,hv,rfl⟩:=Option.map_eq_some_iff.mp hf2
    exact abB rfl (by decide) hv (abE rfl rfl (.inl ⟨_,rfl,h⟩))
  rw [decide_eq_false m7]
  refine brF ?_
  dsimp only [dNext]
  refine abB rfl (by decide) hc (af0 ?_)
  show Br (decide (c=("InvalidPage":Str))) _ _
  by_cases m8:c=("InvalidPage":Str)
  · rw [decide_eq_true m8]
    refine brT ?_
    have hf2:(fs.lookup ("line":Str)).map (fun v=>[v])=some xs:=by rw [<- hf];unfold DL.fieldsOf;rw [if_neg m0,if_neg m1,if_neg m2,if_neg m3,if_neg m4,if_neg m5,if_neg m6,if_neg m7,if_pos m8]
    obtain ⟨v,hv,rfl⟩:=Option.map_eq_some_iff.mp hf2
    exact abB rfl (by decide) hv (abE rfl rfl (.inl ⟨_,rfl,h⟩))
  rw [decide_eq_false m8]
  refine brF ?_
  dsimp only [dNext]
  have hf2:=hf
  unfold DL.fieldsOf at hf2
  rw [if_neg m0,if_neg m1,if_neg m2,if_neg m3,if_neg m4,if_neg m5,if_neg m6,if_neg m7,if_neg m8] at hf2
  refine abB rfl (by decide) hc (af0 ?_)
  show Br (decide (c=("TooMany":Str))) _ _
  by_cases mz:c=("TooMany":Str)
  · rw [decide_eq_true mz]
    refine brT ?_
    rw [if_pos mz] at hf2
    split at hf2
    · rename_i x1 x2 h1 h2
      cases hf2
      exact abB rfl (by decide) h1 (abB rfl (by decide) h2 (abE rfl rfl (.inl ⟨_,rfl,h⟩)))
    · cases hf2
  · rw [decide_eq_false mz]
    refine brF ?_
    rw [if_neg mz] at hf2
    cases hf2
    exact abE rfl rfl (.inl ⟨_,rfl,h⟩)
theorem ah8 {K:PySem.W.Frag} {C:Addr} (h:xcP K C=true):XcOk K C:=by
  unfold xcP at h
  obtain ⟨h1,h⟩:=He.ba h
  obtain ⟨h2,h⟩:=He.ba h
  obtain ⟨h3,h⟩:=He.ba h
  obtain ⟨h4,h⟩:=He.ba h
  obtain ⟨h5,h6⟩:=He.ba h
  exact ⟨xfB_ok h1,fun f hf=>of_decide_eq_true (List.all_eq_true.mp h2 f hf),of_decide_eq_true h3,of_decide_eq_true h4,of_decide_eq_true h5,of_decide_eq_true h6⟩
theorem abh {K:PySem.W.Frag} (h:xtB K=true) {c:Str} (hc:c∈xN):XcOk K (He.ga K c):=ah8 (He.ba (List.all_eq_true.mp h c hc)).1
theorem ahD {K:PySem.W.Frag} (h:xtB K=true) {c t:Str} (hc:c∈xN) (ht:t∈xT):PySem.W.kitOne K (.ref (He.ga K c)) (tvX K t)=some (subX c t):=of_decide_eq_true (List.all_eq_true.mp (He.ba (List.all_eq_true.mp h c hc)).2 t ht)
abbrev acP:List Str:=["_law_e"]
theorem acE:FnScope acP ["_law_e"] (defScope aaB):=⟨rfl,rfl,rfl,by decide +kernel,rfl,by decide +kernel,by decide +kernel⟩
theorem acF (T:Tx P K mg base a d):FnR P w K mg base 2 (a aap) (d aap) ["_law_e"] (upC K (fun args Q=>∃ (xa C:Addr) (fs:List (Str × D)),args=[excD xa C fs]/\(∃ (c:Str),c∈xN/\C=He.ga K c/\Q (.lst ((xN.take 13).map fun t=>.bl (subX c t)))))):=by
  refine agG T.F__law_first_classes acE (by rintro _ _ ⟨xa,C,fs,rfl,h⟩;rfl) (by rintro _ _ ⟨xa,C,fs,rfl,h⟩ i o ei;rcases i with _ | _<;>simp at ei) (fun cdv A outer s H E hr hg=>(abg (abf (abG (aaa (aaJ (K:=K) (c:=.ref (He.ga K "InvalidRatio")) (cv:=.ref (He.ga K "InvalidRatio")) (by rfl) T.n_isinstance (pv 0) (pe_glob (by rfl) T.m_InvalidRatio rfl) (fun _ h=>h)) (aaa (aaJ (K:=K) (c:=.ref (He.ga K "InvalidNumber")) (cv:=.ref (He.ga K "InvalidNumber")) (by rfl) T.n_isinstance (pv 0) (pe_glob (by rfl) T.m_InvalidNumber rfl) (fun _ h=>h)) (aaa (aaJ (K:=K) (c:=.ref (He.ga K "InvalidName")) (cv:=.ref (He.ga K "InvalidName")) (by rfl) T.n_isinstance (pv 0) (pe_glob (by rfl) T.m_InvalidName rfl) (fun _ h=>h)) (aaa (aaJ (K:=K) (c:=.ref (He.ga K "DuplicateName")) (cv:=.ref (He.ga K "DuplicateName")) (by rfl) T.n_isinstance (pv 0) (pe_glob (by rfl) T.m_DuplicateName rfl) (fun _ h=>h)) (aaa (aaJ (K:=K) (c:=.ref (He.ga K "InvalidRow")) (cv:=.ref (He.ga K "InvalidRow")) (by rfl) T.n_isinstance (pv 0) (pe_glob (by rfl) T.m_InvalidRow rfl) (fun _ h=>h)) (aaa (aaJ (K:=K) (c:=.ref (He.ga K "InvalidLayer")) (cv:=.ref (He.ga K "InvalidLayer")) (by rfl) T.n_isinstance (pv 0) (pe_glob (by rfl) T.m_InvalidLayer rfl) (fun _ h=>h)) (aaa (aaJ (K:=K) (c:=.ref (He.ga K "InvalidTable")) (cv:=.ref (He.ga K "InvalidTable")) (by rfl) T.n_isinstance (pv 0) (pe_glob (by rfl) T.m_InvalidTable rfl) (fun _ h=>h)) (aaa (aaJ (K:=K) (c:=.ref (He.ga K "InvalidWay")) (cv:=.ref (He.ga K "InvalidWay")) (by rfl) T.n_isinstance (pv 0) (pe_glob (by rfl) T.m_InvalidWay rfl) (fun _ h=>h)) (aaa (aaJ (K:=K) (c:=.ref (He.ga K "InvalidPlace")) (cv:=.ref (He.ga K "InvalidPlace")) (by rfl) T.n_isinstance (pv 0) (pe_glob (by rfl) T.m_InvalidPlace rfl) (fun _ h=>h)) (aaa (aaJ (K:=K) (c:=.ref (He.ga K "InvalidPoint")) (cv:=.ref (He.ga K "InvalidPoint")) (by rfl) T.n_isinstance (pv 0) (pe_glob (by rfl) T.m_InvalidPoint rfl) (fun _ h=>h)) (aaa (aaJ (K:=K) (c:=.ref (He.ga K "InvalidForm")) (cv:=.ref (He.ga K "InvalidForm")) (by rfl) T.n_isinstance (pv 0) (pe_glob (by rfl) T.m_InvalidForm rfl) (fun _ h=>h)) (aaa (aaJ (K:=K) (c:=.ref (He.ga K "InvalidStep")) (cv:=.ref (He.ga K "InvalidStep")) (by rfl) T.n_isinstance (pv 0) (pe_glob (by rfl) T.m_InvalidStep rfl) (fun _ h=>h)) (aaa (aaJ (K:=K) (c:=.ref (He.ga K "UnlikeEnds")) (cv:=.ref (He.ga K "UnlikeEnds")) (by rfl) T.n_isinstance (pv 0) (pe_glob (by rfl) T.m_UnlikeEnds rfl) (fun _ h=>h)) aab))))))))))))))))) (fun args Q h=>?_)
  obtain ⟨xa,C,fs,rfl,h⟩:=h
  obtain ⟨c,hc,rfl,h⟩:=h
  have g:∀ t∈xT,PySem.W.kitOne K (.ref (He.ga K c)) (tvX K t)=some (subX c t):=fun t ht=>ahD T.xt hc ht
  refine aaZ rfl (g "InvalidRatio" (by decide)) ?_
  refine aaZ rfl (g "InvalidNumber" (by decide)) ?_
  refine aaZ rfl (g "InvalidName" (by decide)) ?_
  refine aaZ rfl (g "DuplicateName" (by decide)) ?_
  refine aaZ rfl (g "InvalidRow" (by decide)) ?_
  refine aaZ rfl (g "InvalidLayer" (by decide)) ?_
  refine aaZ rfl (g "InvalidTable" (by decide)) ?_
  refine aaZ rfl (g "InvalidWay" (by decide)) ?_
  refine aaZ rfl (g "InvalidPlace" (by decide)) ?_
  refine aaZ rfl (g "InvalidPoint" (by decide)) ?_
  refine aaZ rfl (g "InvalidForm" (by decide)) ?_
  refine aaZ rfl (g "InvalidStep" (by decide)) ?_
  refine aaZ rfl (g "UnlikeEnds" (by decide)) ?_
  exact adh rfl rfl (.inr ⟨_,rfl,h⟩)
abbrev adg:List Str:=["_law_e"]
theorem acN:FnScope adg ["_law_e"] (defScope aaF):=⟨rfl,rfl,rfl,by decide +kernel,rfl,by decide +kernel,by decide +kernel⟩
theorem acO (T:Tx P K mg base a d):FnR P w K mg base 2 (a aar) (d aar) ["_law_e"] (upC K (fun args Q=>∃ (xa C:Addr) (fs:List (Str × D)),args=[excD xa C fs]/\(∃ (c:Str),c∈xN/\C=He.ga K c/\Q (.lst ((xN.drop 13).map fun t=>.bl (subX c t)))))):=by
  refine agG T.F__law_last_classes acN (by rintro _ _ ⟨xa,C,fs,rfl,h⟩;rfl) (by rintro _ _ ⟨xa,C,fs,rfl,h⟩ i o ei;rcases i with _ | _<;>simp at ei) (fun cdv A outer s H E hr hg=>(abg (abf (abG (aaa (aaJ (K:=K) (c:=.ref (He.ga K "InvalidText")) (cv:=.ref (He.ga K "InvalidText")) (by rfl) T.n_isinstance (pv 0) (pe_glob (by rfl) T.m_InvalidText rfl) (fun _ h=>h)) (aaa (aaJ (K:=K) (c:=.ref (He.ga K "InvalidFact")) (cv:=.ref (He.ga K "InvalidFact")) (by rfl) T.n_isinstance (pv 0) (pe_glob (by rfl) T.m_InvalidFact rfl) (fun _ h=>h)) (aaa (aaJ (K:=K) (c:=.ref (He.ga K "UnlikeScripts")) (cv:=.ref (He.ga K "UnlikeScripts")) (by rfl) T.n_isinstance (pv 0) (pe_glob (by rfl) T.m_UnlikeScripts rfl) (fun _ h=>h)) (aaa (aaJ (K:=K) (c:=.ref (He.ga K "UnlikeWorlds")) (cv:=.ref (He.ga K "UnlikeWorlds")) (by rfl) T.n_isinstance (pv 0) (pe_glob (by rfl) T.m_UnlikeWorlds rfl) (fun _ h=>h)) (aaa (aaJ (K:=K) (c:=.ref (He.ga K "HasTests")) (cv:=.ref (He.ga K "HasTests")) (by rfl) T.n_isinstance (pv 0) (pe_glob (by rfl) T.m_HasTests rfl) (fun _ h=>h)) (aaa (aaJ (K:=K) (c:=.ref (He.ga K "NoWorld")) (cv:=.ref (He.ga K "NoWorld")) (by rfl) T.n_isinstance (pv 0) (pe_glob (by rfl) T.m_NoWorld rfl) (fun _ h=>h)) (aaa (aaJ (K:=K) (c:=.ref (He.ga K "InvalidCommand")) (cv:=.ref (He.ga K "InvalidCommand")) (by rfl) T.n_isinstance (pv 0) (pe_glob (by rfl) T.m_InvalidCommand rfl) (fun _ h=>h)) (aaa (aaJ (K:=K) (c:=.ref (He.ga K "InvalidLimit")) (cv:=.ref (He.ga K "InvalidLimit")) (by rfl) T.n_isinstance (pv 0) (pe_glob (by rfl) T.m_InvalidLimit rfl) (fun _ h=>h)) (aaa (aaJ (K:=K) (c:=.ref (He.ga K "Full")) (cv:=.ref (He.ga K "Full")) (by rfl) T.n_isinstance (pv 0) (pe_glob (by rfl) T.m_Full rfl) (fun _ h=>h)) (aaa (aaJ (K:=K) (c:=.ref (He.ga K "InvalidPage")) (cv:=.ref (He.ga K "InvalidPage")) (by rfl) T.n_isinstance (pv 0) (pe_glob (by rfl) T.m_InvalidPage rfl) (fun _ h=>h)) (aaa (aaJ (K:=K) (c:=.ref (He.ga K "TooMany")) (cv:=.ref (He.ga K "TooMany")) (by rfl) T.n_isinstance (pv 0) (pe_glob (by rfl) T.m_TooMany rfl) (fun _ h=>h)) (aaa (aaJ (K:=K) (c:=.ref (He.ga K "UnknownName")) (cv:=.ref (He.ga K "UnknownName")) (by rfl) T.n_isinstance (pv 0) (pe_glob (by rfl) T.m_UnknownName rfl) (fun _ h=>h)) (aaa (aaJ (K:=K) (c:=.ref (He.ga K "UnknownScript")) (cv:=.ref (He.ga K "UnknownScript")) (by rfl) T.n_isinstance (pv 0) (pe_glob (by rfl) T.m_UnknownScript rfl) (fun _ h=>h)) (aaa (aaJ (K:=K) (c:=.ref (He.ga K "NothingLeft")) (cv:=.ref (He.ga K "NothingLeft")) (by rfl) T.n_isinstance (pv 0) (pe_glob (by rfl) T.m_NothingLeft rfl) (fun _ h=>h)) aab)))))))))))))))))) (fun args Q h=>?_)
  obtain ⟨xa,C,fs,rfl,h⟩:=h
  obtain ⟨c,hc,rfl,h⟩:=h
  have g:∀ t∈xT,PySem.W.kitOne K (.ref (He.ga K c)) (tvX K t)=some (subX c t):=fun t ht=>ahD T.xt hc ht
  refine aaZ rfl (g "InvalidText" (by decide)) ?_
  refine aaZ rfl (g "InvalidFact" (by decide)) ?_
  refine aaZ rfl (g "UnlikeScripts" (by decide)) ?_
  refine aaZ rfl (g "UnlikeWorlds" (by decide)) ?_
  refine aaZ rfl (g "HasTests" (by decide)) ?_
  refine aaZ rfl (g "NoWorld" (by decide)) ?_
  refine aaZ rfl (g "InvalidCommand" (by decide)) ?_
  refine aaZ rfl (g "InvalidLimit" (by decide)) ?_
  refine aaZ rfl (g "Full" (by decide)) ?_
  refine aaZ rfl (g "InvalidPage" (by decide)) ?_
  refine aaZ rfl (g "TooMany" (by decide)) ?_
  refine aaZ rfl (g "UnknownName" (by decide)) ?_
  refine aaZ rfl (g "UnknownScript" (by decide)) ?_
  refine aaZ rfl (g "NothingLeft" (by decide)) ?_
  exact adh rfl rfl (.inr ⟨_,rfl,h⟩)
end
section
variable {P:Program} {w:World} {K:PySem.W.Frag} {mg:Str->Option Value} {base:Heap} {a:Nat->Addr} {d:Nat->FuncData}
abbrev XSp:=Str × List (Str × D) × List D
def specL (x y z:D):List XSp:=[("InvalidRatio",acw x,[x]),("InvalidNumber",ab5 x,[x]),("InvalidName",adb x,[x]),("DuplicateName",ab6 x,[x]),("InvalidRow",adt x,[x]),("InvalidLayer",acA x,[x]),("InvalidTable",acv x,[x]),("InvalidWay",ads x y z,[x,y,z]),("InvalidPlace",acy x,[x]),("InvalidPoint",acx x,[x]),("InvalidForm",adc x,[x]),("InvalidStep",ac9 x,[x]),("UnlikeEnds",adr x,[x]),("InvalidText",ac8 x,[x]),("InvalidFact",add x,[x]),("UnlikeScripts",ab3,[]),("UnlikeWorlds",acu,[]),("HasTests",aee,[]),("NoWorld",aeT,[]),("InvalidCommand",abL x,[x]),("InvalidLimit",acz x,[x]),("Full",af4 x,[x]),("InvalidPage",ada x,[x]),("TooMany",aeS x y,[x,y]),("UnknownName",ac6 x,[x]),("UnknownScript",ab4 x,[x]),("NothingLeft",ac7,[])]
theorem agU (x y z:D):∀ p∈specL x y z,p.1∈xN/\p.2.1.lookup ("code":Str)=some (.str p.1)/\DL.fieldsOf p.1 p.2.1=some p.2.2:=by
  intro p hp
  unfold specL at hp
  simp only [List.mem_cons,List.not_mem_nil,or_false] at hp
  rcases hp with rfl | rfl | rfl | rfl | rfl | rfl | rfl | rfl | rfl | rfl | rfl | rfl | rfl | rfl | rfl | rfl | rfl | rfl | rfl | rfl | rfl | rfl | rfl | rfl | rfl | rfl | rfl<;>exact ⟨by dsimp only;decide,by kernel_rfl,by kernel_rfl⟩
theorem abi {C:Addr} {ps:List Str} {fx:List (Str × (Str ⊕ Str))} {n m:Nat} {ta tk:TDA} {sl:DSt} {Q:Addr->Addr->List (Str × D)->DSt->Prop} (ds ys:List DV) (xs:List D) (h1:∀ R:List DV->DSt->Prop,R ds sl->ta sl R E0X) (h2:∀ R:List DV->DSt->Prop,R ys sl->tk sl R E0X) (l1:ds.length=n) (l2:ys.length=m) (ed:dats (ds++ys)=some xs) (q:∀ a,Q a C (xdD ps fx xs) sl):dMkX C ps fx n m ta tk sl Q:=h1 _ (h2 _ ⟨xs,l1,l2,ed,q⟩)
theorem ad3 {α:Type} {k:α->Addr × List (Str × D)} {rows:List XRow} {sp:List α} (e:rows.map (·.2)=sp.map k) (f:Addr × List (Str × D)->D) (g:α->D) (h:∀ p∈sp,f (k p)=g p):rows.map (fun r=>f r.2)=sp.map g:=by
  have z:=congrArg (List.map f) e
  rw [List.map_map,List.map_map] at z
  exact z.trans (List.map_congr_left fun p hp=>h p hp)
theorem ag2 {α:Type} {k:α->Addr × List (Str × D)} {rows:List XRow} {sp:List α} (e:rows.map (·.2)=sp.map k) {r:XRow} (hr:r∈rows):∃ p∈sp,r.2=k p:=by
  have m:r.2∈sp.map k:=by rw [<- e];exact List.mem_map_of_mem (f:=(·.2)) hr
  obtain ⟨p,hp,ep⟩:=List.mem_map.mp m
  exact ⟨p,hp,ep.symm⟩
abbrev kS (K:PySem.W.Frag) (p:XSp):Addr × List (Str × D):=(He.ga K p.1,p.2.1)
theorem agT {x y z:D} (sx:Sm 20 1 200 x) (sy:Sm 20 1 200 y) (sz:Sm 20 1 200 z):∀ p∈specL x y z,Sm 20 2 1000 (.tup p.2.2):=by
  have t0:Sm 20 2 1000 (.tup []):=(aeU acC).mono (by decide) (by decide)
  have t1:Sm 20 2 1000 (.tup [x]):=(aeU (abc sx acC)).mono (by decide) (by decide)
  have t2:Sm 20 2 1000 (.tup [x,y]):=(aeU (abc sx (abc sy acC))).mono (by decide) (by decide)
  have t3:Sm 20 2 1000 (.tup [x,y,z]):=(aeU (abc sx (abc sy (abc sz acC)))).mono (by decide) (by decide)
  intro p hp
  unfold specL at hp
  simp only [List.mem_cons,List.not_mem_nil,or_false] at hp
  rcases hp with rfl | rfl | rfl | rfl | rfl | rfl | rfl | rfl | rfl | rfl | rfl | rfl | rfl | rfl | rfl | rfl | rfl | rfl | rfl | rfl | rfl | rfl | rfl | rfl | rfl | rfl | rfl<;>first | exact t0 | exact t1 | exact t2 | exact t3
theorem agS (x y z:D):∀ p∈specL x y z,Sm 20 0 402 (.str p.1):=by
  intro p hp
  unfold specL at hp
  simp only [List.mem_cons,List.not_mem_nil,or_false] at hp
  rcases hp with rfl | rfl | rfl | rfl | rfl | rfl | rfl | rfl | rfl | rfl | rfl | rfl | rfl | rfl | rfl | rfl | rfl | rfl | rfl | rfl | rfl | rfl | rfl | rfl | rfl | rfl | rfl<;>exact aeV (m:=40) (by dsimp only;decide) (by dsimp only;decide)
def bareL:List Str:=["UnlikeScripts","UnlikeWorlds","HasTests","NoWorld","NothingLeft"]
def dueF (x:D) (c:Str):D:=if c∈bareL then .tup [] else .tup [x]
def fldF (g:Addr × List (Str × D)):D:=match g.2.lookup ("code":Str) with
  | some (.str c)=>.tup ((DL.fieldsOf c g.2).getD [])
  | _=>.non
def clsF (g:Addr × List (Str × D)):D:=match g.2.lookup ("code":Str) with
  | some (.str c)=>.lst (xN.map fun t=>.bl (subX c t))
  | _=>.non
def kinS (c:Str):D:=.lst [.bl (subX c "MilesError"),.bl (subX c "ValueError"),.bl (subX c "Missing"),.bl (subX c "LookupError"),.bl (subX c "IndexError")]
def kinF (g:Addr × List (Str × D)):D:=match g.2.lookup ("code":Str) with
  | some (.str c)=>kinS c
  | _=>.non
theorem ah3 (x y z:D):(((specL x y z).map fun q:XSp=>dueF x q.1).set 7 (.tup [x,y,z])).set 23 (.tup [x,y])=(specL x y z).map fun q:XSp=>D.tup q.2.2:=by kernel_rfl
abbrev tabK:List D:=(List.range 27).map fun k=>D.lst ((List.range 27).map fun j=>D.bl (decide (k=j)))
theorem ah6 (x y z:D):eqD (.lst ((specL x y z).map fun q:XSp=>D.lst (xN.map fun t=>.bl (subX q.1 t)))) (.lst tabK)=true:=by kernel_rfl
theorem ahW (x y z:D):eqD (.lst ((specL x y z).map fun q:XSp=>kinS q.1)) (.lst (((List.replicate 24 [D.lst [.bl true,.bl true,.bl false,.bl false,.bl false]]).flatten++(List.replicate 2 [D.lst [.bl false,.bl false,.bl true,.bl true,.bl false]]).flatten)++[D.lst [.bl false,.bl false,.bl false,.bl true,.bl true]]))=true:=by kernel_rfl
theorem ad2 {ds:List D} (hl:ds.length<=27) (h:∀ d∈ds,∃ bs:List Bool,d=.lst (bs.map D.bl)/\bs.length<=27):∃ p,(D.lst ds).py=some p/\SeqAt.shaped p=true:=by
  refine (af9 (b:=20) (ae7 (m:=27) (d:=1) (w:=27 * 7 + 3) (fun d hd=>?_) hl)).sh
  obtain ⟨bs,rfl,hb⟩:=h d hd
  exact (af9 (af7 bs)).mono (Nat.le_refl _) (by omega)
def codeF (f:Addr × List (Str × D)):D:=(f.2.lookup ("code":Str)).getD .non
abbrev afo:List Str:=["_law_script","_law_src","_law_one","_law_two","_law_three","_law_some","_law_codes","_law_bare","_law_due","_law_kinds","_law_code","_law_e","_law_k","_law_j"]
theorem aaY:FnScope afo ["_law_script"] (defScope adK):=⟨rfl,rfl,rfl,by decide +kernel,rfl,by decide +kernel,by decide +kernel⟩
theorem aeN (T:Tx P K mg base a d):Binds K (d aaW) ["_law_script"] []:=ahh T.F__law_source fun _ _ _ _ _ _ us hl=>match us,hl with | [_],_=>rfl
theorem aii (T:Tx P K mg base a d):FnR P w K mg base 20 (a ahc) (d ahc) ["_law_script"] (spLaw K):=by
  have G__law_draw:FnG P w K mg base 1 (a aaK) (d aaK) ["_law_src","_law_many"] (spDraw):=adO T
  have G__law_fields:FnR P w K mg base 2 (a aaN) (d aaN) ["_law_e"] (upC K (fun args Q=>∃ (xa C:Addr) (fs:List (Str × D)),args=[excD xa C fs]/\(∃ (c:Str) (xs:List D),fs.lookup ("code":Str)=some (.str c)/\DL.fieldsOf c fs=some xs/\Q (.tup xs)))):=aeM T
  have G__law_first_classes:FnR P w K mg base 2 (a aap) (d aap) ["_law_e"] (upC K (fun args Q=>∃ (xa C:Addr) (fs:List (Str × D)),args=[excD xa C fs]/\(∃ (c:Str),c∈xN/\C=He.ga K c/\Q (.lst ((xN.take 13).map fun t=>.bl (subX c t)))))):=acF T
  have G__law_last_classes:FnR P w K mg base 2 (a aar) (d aar) ["_law_e"] (upC K (fun args Q=>∃ (xa C:Addr) (fs:List (Str × D)),args=[excD xa C fs]/\(∃ (c:Str),c∈xN/\C=He.ga K c/\Q (.lst ((xN.drop 13).map fun t=>.bl (subX c t)))))):=acO T
  have G__law_of:FnG P w K mg base 2 (a abv) (d abv) ["_law_src","_law_some"] (spOf):=afZ T
  have G__law_same:FnG P w K mg base 1 (a aaT) (d aaT) ["_law_found","_law_due"] (spSame):=afm T
  obtain ⟨cc,hcc,hmem⟩:=ahU T.F_law (by decide)
  refine ah1 T.F_law aaY (fun vs H Q E h=>?_) (fun cdv hcd A outer s H vs Q E hr hg h=>?_)
  · obtain ⟨c,ns,rfl,_⟩:=h;rfl
  · obtain ⟨c,ns,rfl,hS,hlen,htb,huq,q⟩:=h
    have hcode:cdv=.ref cc:=hcd.symm.trans hcc
    refine ⟨_,pss_cons (ps_set (i:=1) aaY.nd rfl (Or.inl rfl) (ag4 (aeL T) (hr.mono (by decide)) hg (by rfl) T.m__law_source T.F__law_source.kp (aeN T) (pa_cons (pv 0) pa_nil)))
      (up_ss (fun cls d _ H=>E cls d H) (aaO (agI (i:=2) aaY.nd rfl (Or.inr rfl) (acG G__law_of (hr.mono (by decide)) hg (tkOf rfl rfl rfl rfl) (adk T) (by rfl) T.m__law_of T.F__law_of.kp (aaa (aaG (pv 1)) (aaa (abG (aaa ahy (aaa aad (aaa abQ (aaa (aaU (aaa aad (aaa abQ aab))) (aaa abT (aaa (abG (aaa abQ (aaa aad aab))) (aaa (acG G__law_draw (hr.mono (by decide)) hg (tkOf rfl rfl rfl rfl) (abU T) (by rfl) T.m__law_draw T.F__law_draw.kp (aaa (aaG (pv 1)) (aaa (aix abQ abQ) aab))) aab)))))))) aab))))
      (aaO (aiw (i:=3) (j:=4) rfl aaY.nd rfl rfl (by decide) rfl rfl (aaa (acG G__law_of (hr.mono (by decide)) hg (tkOf rfl rfl rfl rfl) (adk T) (by rfl) T.m__law_of T.F__law_of.kp (aaa (aaG (pv 1)) (aaa (abG (aaa (aiy abQ) (aaa abQ (aaa (acG G__law_draw (hr.mono (by decide)) hg (tkOf rfl rfl rfl rfl) (abU T) (by rfl) T.m__law_draw T.F__law_draw.kp (aaa (aaG (pv 1)) (aaa abQ aab))) (aaa ahy (aaa aad aab)))))) aab))) (aaa (acG G__law_of (hr.mono (by decide)) hg (tkOf rfl rfl rfl rfl) (adk T) (by rfl) T.m__law_of T.F__law_of.kp (aaa (aaG (pv 1)) (aaa (abG (aaa abQ (aaa aad (aaa (aaU aab) aab)))) aab))) aab)) (by rfl))
      (aaO (ahe (i:=5) aaY.nd rfl (Or.inl rfl) (aaA (ade T.xk_InvalidRatio_1 (hr.mono (by decide)) (by rfl) T.m_InvalidRatio (aaa (aaG (pv 2)) aab))
        (aaA (abt T.xk_InvalidNumber_0_given (hr.mono (by decide)) (by rfl) T.m_InvalidNumber (abx (aaG (pv 2)) aca))
        (aaA (ade T.xk_InvalidName_1 (hr.mono (by decide)) (by rfl) T.m_InvalidName (aaa (aaG (pv 2)) aab))
        (aaA (abt T.xk_DuplicateName_0_name (hr.mono (by decide)) (by rfl) T.m_DuplicateName (abx (aaG (pv 2)) aca))
        (aaA (ade T.xk_InvalidRow_1 (hr.mono (by decide)) (by rfl) T.m_InvalidRow (aaa (aaG (pv 2)) aab))
        (aaA (ade T.xk_InvalidLayer_1 (hr.mono (by decide)) (by rfl) T.m_InvalidLayer (aaa (aaG (pv 2)) aab))
        (aaA (abt T.xk_InvalidTable_0_layer (hr.mono (by decide)) (by rfl) T.m_InvalidTable (abx (aaG (pv 2)) aca))
        (aaA (agr T.xk_InvalidWay_2_goal (hr.mono (by decide)) (by rfl) T.m_InvalidWay (aaa (aaG (pv 2)) (aaa (aaG (pv 3)) aab)) (abx (aaG (pv 4)) aca))
        (aaA (ade T.xk_InvalidPlace_1 (hr.mono (by decide)) (by rfl) T.m_InvalidPlace (aaa (aaG (pv 2)) aab))
        (aaA (abt T.xk_InvalidPoint_0_given (hr.mono (by decide)) (by rfl) T.m_InvalidPoint (abx (aaG (pv 2)) aca))
        (aaA (ade T.xk_InvalidForm_1 (hr.mono (by decide)) (by rfl) T.m_InvalidForm (aaa (aaG (pv 2)) aab))
        (aaA (abt T.xk_InvalidStep_0_path (hr.mono (by decide)) (by rfl) T.m_InvalidStep (abx (aaG (pv 2)) aca))
        (aaA (ade T.xk_UnlikeEnds_1 (hr.mono (by decide)) (by rfl) T.m_UnlikeEnds (aaa (aaG (pv 2)) aab))
        (aaA (abt T.xk_InvalidText_0_word (hr.mono (by decide)) (by rfl) T.m_InvalidText (abx (aaG (pv 2)) aca))
        (aaA (abt T.xk_InvalidFact_0_at (hr.mono (by decide)) (by rfl) T.m_InvalidFact (abx (aaG (pv 2)) aca))
        (aaA (aeo T.xk_UnlikeScripts_0 (hr.mono (by decide)) (by rfl) T.m_UnlikeScripts)
        (aaA (aeo T.xk_UnlikeWorlds_0 (hr.mono (by decide)) (by rfl) T.m_UnlikeWorlds)
        (aaA (aeo T.xk_HasTests_0 (hr.mono (by decide)) (by rfl) T.m_HasTests)
        (aaA (aeo T.xk_NoWorld_0 (hr.mono (by decide)) (by rfl) T.m_NoWorld)
        (aaA (ade T.xk_InvalidCommand_1 (hr.mono (by decide)) (by rfl) T.m_InvalidCommand (aaa (aaG (pv 2)) aab))
        (aaA (ade T.xk_InvalidLimit_1 (hr.mono (by decide)) (by rfl) T.m_InvalidLimit (aaa (aaG (pv 2)) aab))
        (aaA (abt T.xk_Full_0_limit (hr.mono (by decide)) (by rfl) T.m_Full (abx (aaG (pv 2)) aca))
        (aaA (abt T.xk_InvalidPage_0_line (hr.mono (by decide)) (by rfl) T.m_InvalidPage (abx (aaG (pv 2)) aca))
        (aaA (agr T.xk_TooMany_1_most (hr.mono (by decide)) (by rfl) T.m_TooMany (aaa (aaG (pv 2)) aab) (abx (aaG (pv 3)) aca))
        (aaA (ade T.xk_UnknownName_1 (hr.mono (by decide)) (by rfl) T.m_UnknownName (aaa (aaG (pv 2)) aab))
        (aaA (abt T.xk_UnknownScript_0_word (hr.mono (by decide)) (by rfl) T.m_UnknownScript (abx (aaG (pv 2)) aca))
        (aaA (aeo T.xk_NothingLeft_0 (hr.mono (by decide)) (by rfl) T.m_NothingLeft)
        ahQ))))))))))))))))))))))))))))
      (aaO (agI (i:=6) aaY.nd rfl (Or.inl rfl) (abG (aaa aad (aaa aad (aaa aad (aaa aad (aaa aad (aaa aad (aaa aad (aaa aad (aaa aad (aaa aad (aaa aad (aaa aad (aaa aad (aaa aad (aaa aad (aaa aad (aaa aad (aaa aad (aaa aad (aaa aad (aaa aad (aaa aad (aaa aad (aaa aad (aaa aad (aaa aad (aaa aad aab)))))))))))))))))))))))))))))
      (aaO (ad1 (ahw (ahv (acG G__law_same (hr.mono (by decide)) hg (tkOf rfl rfl rfl rfl) (adD T) (by rfl) T.m__law_same T.F__law_same.kp (aaa (agK (own:=[("_law_e",11)]) rfl aaY.nd (afr (afO (pv 5))) (blkOk_by (own:=[("_law_e",11)]) (N:=afo) (sc:=(defScope adK)) (by decide +kernel)) (fun _ _ _ _ _=>(adj (i:=11) aaY.nd rfl (Or.inl rfl))) (fun _ _ _ _ _=>adi) (fun _ _ _ _ _=>(afP (j:=5) (k:=11) (aaS (pv 11))))) (aaa (aaG (pv 6)) aab))))) (abg (abf abT)) ab9)
      (aaO (agI (i:=7) aaY.nd rfl (Or.inr rfl) (abG (aaa aad (aaa aad (aaa aad (aaa aad (aaa aad aab)))))))
      (aaO (afN (i:=8) (own:=[("_law_code",10)]) rfl aaY.nd rfl rfl (sw_true rfl rfl rfl (by decide +kernel)) (afr (aaG (pv 6))) (blkOk_by (own:=[("_law_code",10)]) (N:=afo) (sc:=(defScope adK)) (by decide +kernel)) (fun _ _ _ _ _=>(adj (i:=10) aaY.nd rfl (Or.inl rfl))) (fun _ _ _ _ _=>adi) (fun _ _ _ _ _=>(ahA (ab8 acK aeW (adB (pv 10)) (adB (pv 7)) (by rfl)) (aaU aab) (aaU (aaa (aaG (pv 2)) aab)))))
      (aaO (ahf rfl (pv 8) (pv 8) pe_int pe_int (aaU (aaa (aaU (aaa (aaG (pv 2)) (aaa (aaG (pv 3)) (aaa (aaG (pv 4)) aab)))) (aaa (aaU (aaa (aaG (pv 2)) (aaa (aaG (pv 3)) aab))) aab))))
      (aaO (ad1 (ahw (ahv (acG G__law_same (hr.mono (by decide)) hg (tkOf rfl rfl rfl rfl) (adD T) (by rfl) T.m__law_same T.F__law_same.kp (aaa (agK (own:=[("_law_e",11)]) rfl aaY.nd (afr (afO (pv 5))) (blkOk_by (own:=[("_law_e",11)]) (N:=afo) (sc:=(defScope adK)) (by decide +kernel)) (fun _ _ _ _ _=>(adj (i:=11) aaY.nd rfl (Or.inl rfl))) (fun _ _ _ _ _=>adi) (fun _ _ _ _ _=>(afP (j:=5) (k:=11) (afg G__law_fields (hr.mono (by decide)) hg af6 (aes T) (by rfl) T.m__law_fields T.F__law_fields.kp (pv 11))))) (aaa (aaG (pv 8)) aab))))) (abg (abf abT)) ab9)
      (aaO (ad1 (ab8 (ag7 hr.units) aid (agK (own:=[("_law_e",11)]) rfl aaY.nd (afr (afO (pv 5))) (blkOk_by (own:=[("_law_e",11)]) (N:=afo) (sc:=(defScope adK)) (by decide +kernel)) (fun _ _ _ _ _=>(adj (i:=11) aaY.nd rfl (Or.inl rfl))) (fun _ _ _ _ _=>adi) (fun _ _ _ _ _=>(afP (j:=5) (k:=11) (agM (afg G__law_first_classes (hr.mono (by decide)) hg af6 (acf T) (by rfl) T.m__law_first_classes T.F__law_first_classes.kp (pv 11)) (afg G__law_last_classes (hr.mono (by decide)) hg af6 (acH T) (by rfl) T.m__law_last_classes T.F__law_last_classes.kp (pv 11)))))) (agK (own:=[("_law_k",12)]) rfl aaY.nd (agJ (by rfl) T.n_range (aaa abQ aab)) (blkOk_by (own:=[("_law_k",12)]) (N:=afo) (sc:=(defScope adK)) (by decide +kernel)) (fun _ _ _ _ _=>(adj (i:=12) aaY.nd rfl (Or.inr rfl))) (fun _ _ _ _ _=>adi) (fun _ _ _ _ _=>(agK (own:=[("_law_j",13)]) rfl aaY.nd (agJ (by rfl) T.n_range (aaa abQ aab)) (blkOk_by (own:=[("_law_j",13)]) (N:=afo) (sc:=_) (by kernel_rfl)) (fun _ _ _ _ _=>(adj (i:=13) aaY.nd rfl (Or.inl rfl))) (fun _ _ _ _ _=>adi) (fun _ _ _ _ _=>(agL (abH hr.units) adN (adB (pv 12)) (adB (pv 13)) (nomark _)))))) (nomark _)) (abg (abf abT)) ab9)
      (aaO (afN (i:=9) (own:=[("_law_e",11)]) rfl aaY.nd rfl rfl (sw_true rfl rfl rfl (by decide +kernel)) (afr (afO (pv 5))) (blkOk_by (own:=[("_law_e",11)]) (N:=afo) (sc:=(defScope adK)) (by decide +kernel)) (fun _ _ _ _ _=>(adj (i:=11) aaY.nd rfl (Or.inl rfl))) (fun _ _ _ _ _=>adi) (fun _ _ _ _ _=>(afP (j:=5) (k:=11) (abG (aaa (aaJ (K:=K) (c:=.ref (He.ga K "MilesError")) (cv:=.ref (He.ga K "MilesError")) (by rfl) T.n_isinstance (pv 11) (pe_glob (by rfl) T.m_MilesError rfl) (fun _ h=>h)) (aaa (aaJ (K:=K) (c:=.ty "ValueError") (cv:=.type "ValueError") (by rfl) T.n_isinstance (pv 11) (pe_bltn (by rfl) T.n_ValueError (by decide +kernel) rfl) (fun _ h=>h)) (aaa (aaJ (K:=K) (c:=.ref (He.ga K "Missing")) (cv:=.ref (He.ga K "Missing")) (by rfl) T.n_isinstance (pv 11) (pe_glob (by rfl) T.m_Missing rfl) (fun _ h=>h)) (aaa (aaJ (K:=K) (c:=.ty "LookupError") (cv:=.type "LookupError") (by rfl) T.n_isinstance (pv 11) (pe_bltn (by rfl) T.n_LookupError (by decide +kernel) rfl) (fun _ h=>h)) (aaa (aaJ (K:=K) (c:=.ty "IndexError") (cv:=.type "IndexError") (by rfl) T.n_isinstance (pv 11) (pe_bltn (by rfl) T.n_IndexError (by decide +kernel) rfl) (fun _ h=>h)) aab)))))))))
      (abg (abf (agL (abH hr.units) adN (adB (pv 9)) (agM (agM (ahz (abG (aaa (abG (aaa abT (aaa abT (aaa abT (aaa abT (aaa abT aab)))))) aab)) abQ) (ahz (abG (aaa (abG (aaa abT (aaa abT (aaa abT (aaa abT (aaa abT aab)))))) aab)) abQ)) (abG (aaa (abG (aaa abT (aaa abT (aaa abT (aaa abT (aaa abT aab)))))) aab))) (nomark _)))))))))))))))),?_⟩
    refine ⟨.ref c,rfl,c,ns,rfl,hS,hlen,fun H' p c' ms sd ex cp hp hc hm h0 h1=>?_⟩
    refine aij 14 1 rfl rfl q cp hp hc hm h0 h1 (fun q hq=>ex _ _ (htb q hq)) huq ?_
    have hz:szl=16777216:=rfl
    refine agY (fun x=>Sm 20 1 200 x) (fun Q hQ=>?_) (fun x sx=>?_)
    · refine abE rfl rfl (adh rfl rfl (ain ⟨by decide,by decide,by decide⟩ ?_))
      refine ⟨rfl,rfl,_,rfl,by decide,by decide,fun m h0 h1=>?_⟩
      have h1':m < 1000000000000000000:=h1
      refine adh rfl rfl ?_
      refine ⟨rfl,rfl,_,rfl,(fun o z=>by cases z),(by show 0 < 7;decide),(by show 7<=szl;decide),fun x hx=>hQ x ?_⟩
      have a1:Sm 20 0 12 (.str ("a":Str)):=aeV (m:=1) (by decide) (by decide)
      have a2:Sm 20 0 12 (.str ("b":Str)):=aeV (m:=1) (by decide) (by decide)
      have a3:Sm 20 0 12 (.str ("c":Str)):=aeV (m:=1) (by decide) (by decide)
      have i1:Sm 20 0 21 (.int 1):=aen (by decide)
      have i3:Sm 20 0 21 (.int 3):=aen (by decide)
      have im:Sm 20 0 21 (.int m):=aen (by omega)
      have t1:=aeU (abc a2 (abc i1 acC))
      have t2:=af9 (abc i1 (abc a3 acC))
      simp only [List.mem_cons,List.not_mem_nil,or_false] at hx
      rcases hx with rfl | rfl | rfl | rfl | rfl | rfl | rfl
      · exact ahk.mono (by decide) (by decide)
      · exact a1.mono (by decide) (by decide)
      · exact i3.mono (by decide) (by decide)
      · exact t1.mono (by decide) (by decide)
      · exact aib.mono (by decide) (by decide)
      · exact t2.mono (by decide) (by decide)
      · exact im.mono (by decide) (by decide)
    refine ag5 (fun y z=>Sm 20 1 200 y/\Sm 20 1 200 z) (fun Q hQ=>?_) (fun y z hyz=>?_)
    · refine l_neg ?_
      refine ⟨rfl,rfl,_,rfl,by decide,by decide,fun m h0 h1=>?_⟩
      have h1':m < 400:=h1
      refine adh rfl rfl ?_
      refine ⟨rfl,rfl,_,rfl,(fun o z=>by cases z),(by show 0 < 5;decide),(by show 5<=szl;decide),fun y hy=>?_⟩
      refine abE rfl rfl (adh rfl rfl ?_)
      refine ⟨rfl,rfl,_,rfl,(fun o z=>by cases z),(by show 0 < 3;decide),(by show 3<=szl;decide),fun z hz=>hQ y z ⟨?_,?_⟩⟩
      · have a1:Sm 20 0 12 (.str ("a":Str)):=aeV (m:=1) (by decide) (by decide)
        simp only [List.mem_cons,List.not_mem_nil,or_false] at hy
        rcases hy with rfl | rfl | rfl | rfl | rfl
        · exact (aen (b:=20) (i:=-1) (by decide)).mono (by decide) (by decide)
        · exact (aen (b:=20) (i:=0) (by decide)).mono (by decide) (by decide)
        · exact (aen (b:=20) (i:=m) (by omega)).mono (by decide) (by decide)
        · exact ahk.mono (by decide) (by decide)
        · exact a1.mono (by decide) (by decide)
      · have a2:Sm 20 0 12 (.str ("b":Str)):=aeV (m:=1) (by decide) (by decide)
        simp only [List.mem_cons,List.not_mem_nil,or_false] at hz
        rcases hz with rfl | rfl | rfl
        · exact (aen (b:=20) (i:=2) (by decide)).mono (by decide) (by decide)
        · exact a2.mono (by decide) (by decide)
        · exact (aeU acC).mono (by decide) (by decide)
    obtain ⟨sy,sz⟩:=hyz
    refine agc ((specL x y z).map (kS K)) (by show 27<=szl;decide) (fun Q hQ=>?_) (fun p rows er=>?_)
    · refine aaH (abi [.d x] [] [x] (fun R h=>h) (fun R h=>h) rfl rfl rfl fun a0=>?_)
      refine aaH (abi [] [.d x] [x] (fun R h=>h) (fun R h=>h) rfl rfl rfl fun a1=>?_)
      refine aaH (abi [.d x] [] [x] (fun R h=>h) (fun R h=>h) rfl rfl rfl fun a2=>?_)
      refine aaH (abi [] [.d x] [x] (fun R h=>h) (fun R h=>h) rfl rfl rfl fun a3=>?_)
      refine aaH (abi [.d x] [] [x] (fun R h=>h) (fun R h=>h) rfl rfl rfl fun a4=>?_)
      refine aaH (abi [.d x] [] [x] (fun R h=>h) (fun R h=>h) rfl rfl rfl fun a5=>?_)
      refine aaH (abi [] [.d x] [x] (fun R h=>h) (fun R h=>h) rfl rfl rfl fun a6=>?_)
      refine aaH (abi [.d x,.d y] [.d z] [x,y,z] (fun R h=>h) (fun R h=>h) rfl rfl rfl fun a7=>?_)
      refine aaH (abi [.d x] [] [x] (fun R h=>h) (fun R h=>h) rfl rfl rfl fun a8=>?_)
      refine aaH (abi [] [.d x] [x] (fun R h=>h) (fun R h=>h) rfl rfl rfl fun a9=>?_)
      refine aaH (abi [.d x] [] [x] (fun R h=>h) (fun R h=>h) rfl rfl rfl fun a10=>?_)
      refine aaH (abi [] [.d x] [x] (fun R h=>h) (fun R h=>h) rfl rfl rfl fun a11=>?_)
      refine aaH (abi [.d x] [] [x] (fun R h=>h) (fun R h=>h) rfl rfl rfl fun a12=>?_)
      refine aaH (abi [] [.d x] [x] (fun R h=>h) (fun R h=>h) rfl rfl rfl fun a13=>?_)
      refine aaH (abi [] [.d x] [x] (fun R h=>h) (fun R h=>h) rfl rfl rfl fun a14=>?_)
      refine aaH (abi [] [] [] (fun R h=>h) (fun R h=>h) rfl rfl rfl fun a15=>?_)
      refine aaH (abi [] [] [] (fun R h=>h) (fun R h=>h) rfl rfl rfl fun a16=>?_)
      refine aaH (abi [] [] [] (fun R h=>h) (fun R h=>h) rfl rfl rfl fun a17=>?_)
      refine aaH (abi [] [] [] (fun R h=>h) (fun R h=>h) rfl rfl rfl fun a18=>?_)
      refine aaH (abi [.d x] [] [x] (fun R h=>h) (fun R h=>h) rfl rfl rfl fun a19=>?_)
      refine aaH (abi [.d x] [] [x] (fun R h=>h) (fun R h=>h) rfl rfl rfl fun a20=>?_)
      refine aaH (abi [] [.d x] [x] (fun R h=>h) (fun R h=>h) rfl rfl rfl fun a21=>?_)
      refine aaH (abi [] [.d x] [x] (fun R h=>h) (fun R h=>h) rfl rfl rfl fun a22=>?_)
      refine aaH (abi [.d x] [.d y] [x,y] (fun R h=>h) (fun R h=>h) rfl rfl rfl fun a23=>?_)
      refine aaH (abi [.d x] [] [x] (fun R h=>h) (fun R h=>h) rfl rfl rfl fun a24=>?_)
      refine aaH (abi [] [.d x] [x] (fun R h=>h) (fun R h=>h) rfl rfl rfl fun a25=>?_)
      refine aaH (abi [] [] [] (fun R h=>h) (fun R h=>h) rfl rfl rfl fun a26=>?_)
      refine aip (hQ _ ?_)
      simp only [List.map_cons,List.map_nil,ad9,adS,aey,adT,ae1,aed,ad8,ae0,aeb,aea,aez,aew,aeZ,aev,aeA,adQ,ad7,aft,afT,adE,aec,ahE,aex,afS,aet,adR,aeu]
      rfl
    have rl:rows.length=27:=by
      have t:=congrArg List.length er
      rw [List.length_map,List.length_map] at t
      exact t
    have rz:rows.length<=szl:=by omega
    have row:∀ r∈rows,∃ q∈specL x y z,r.2=kS K q:=fun r hr=>ag2 er hr
    have ok:=agU x y z
    have cod:∀ q∈specL x y z,codeF (kS K q)=.str q.1:=fun q hq=>by
      unfold codeF kS
      dsimp only
      rw [(ok q hq).2.1];rfl
    refine ae8 ((specL x y z).map fun q:XSp=>D.str q.1) (fun Q hQ=>adh (ds:=(specL x y z).map fun q:XSp=>D.str q.1) rfl rfl hQ) ?_
    refine afR (s':=[none,some .src,some (.d x),some (.d y),some (.d z),some (exlD p rows),some (.d (.lst ((specL x y z).map fun q:XSp=>D.str q.1))),none,none,none,none,none,none,none]) (fun Q hQ=>?_) ?_
    · refine aha rfl (aep ?_)
      refine adA (fun r:XRow=>D.raw (.ref r.1)) (fun r=>codeF r.2) _ rz (fun r hr M A mm=>?_) ?_
      · obtain ⟨q,hq,eq⟩:=row r hr
        rw [eq,cod q hq] at mm
        exact brT (ahb (r:=r) rfl hr rfl (abB rfl (by decide) (by rw [show r.2.2=q.2.1 from congrArg (·.2) eq];exact (ok q hq).2.1) ⟨rfl,mm⟩))
      · rw [ad3 er codeF (fun q:XSp=>D.str q.1) cod]
        exact ⟨rfl,rfl,afl rfl (ae7 (m:=27) (fun d hd=>by
          obtain ⟨q,hq,rfl⟩:=List.mem_map.mp hd
          exact agS x y z q hq) (by rw [List.length_map];exact Nat.le_refl _)) hQ⟩
    refine ae8 (bareL.map D.str) (fun Q hQ=>adh (ds:=bareL.map D.str) rfl rfl hQ) ?_
    refine ae8 ((specL x y z).map fun q:XSp=>dueF x q.1) (fun Q hQ=>?_) ?_
    · refine aep ?_
      refine adA (fun q:XSp=>D.str q.1) (fun q=>dueF x q.1) _ (by show 27<=szl;decide) (fun q hq M A mm=>?_) hQ
      refine brT ?_
      refine l_inL rfl rfl rfl ?_
      show Br (inF (.str q.1) (bareL.map D.str)) _ _
      rw [abS]
      unfold dueF at mm
      by_cases m:q.1∈bareL
      · rw [if_pos m] at mm
        rw [decide_eq_true m]
        exact brT (abE rfl rfl mm)
      · rw [if_neg m] at mm
        rw [decide_eq_false m]
        exact brF (abE rfl rfl mm)
    refine agm (.tup [x,y,z]) (.tup [x,y]) ((specL x y z).map fun q:XSp=>dueF x q.1) 7 23 rfl rfl rfl (fun Q hQ=>abE rfl rfl (abE rfl rfl (abE rfl rfl hQ))) ?_
    rw [ah3]
    have fld:∀ q∈specL x y z,fldF (kS K q)=.tup q.2.2:=fun q hq=>by
      unfold fldF kS
      dsimp only
      rw [(ok q hq).2.1]
      dsimp only
      rw [(ok q hq).2.2];rfl
    have cls:∀ q∈specL x y z,clsF (kS K q)=.lst (xN.map fun t=>.bl (subX q.1 t)):=fun q hq=>by
      unfold clsF kS
      dsimp only
      rw [(ok q hq).2.1]
    have kin:∀ q∈specL x y z,kinF (kS K q)=kinS q.1:=fun q hq=>by
      unfold kinF kS
      dsimp only
      rw [(ok q hq).2.1]
    refine afR (s':=[none,some .src,some (.d x),some (.d y),some (.d z),some (exlD p rows),some (.d (.lst ((specL x y z).map fun q:XSp=>D.str q.1))),some (.own (.lst (bareL.map D.str))),some (.d (.lst ((specL x y z).map fun q:XSp=>D.tup q.2.2))),none,none,none,none,none]) (fun Q hQ=>?_) ?_
    · refine aha rfl (aep ?_)
      refine adA (fun r:XRow=>D.raw (.ref r.1)) (fun r=>fldF r.2) _ rz (fun r hr M A mm=>?_) ?_
      · obtain ⟨q,hq,eq⟩:=row r hr
        rw [eq,fld q hq] at mm
        have e2:r.2.2=q.2.1:=congrArg (·.2) eq
        exact brT (ahb (r:=r) rfl hr rfl (afx rfl ⟨_,_,_,rfl,q.1,q.2.2,by rw [e2];exact (ok q hq).2.1,by rw [e2];exact (ok q hq).2.2,⟨rfl,mm⟩⟩))
      · rw [ad3 er fldF (fun q:XSp=>D.tup q.2.2) fld]
        exact ⟨rfl,rfl,afl rfl (ae7 (m:=27) (fun d hd=>by
          obtain ⟨q,hq,rfl⟩:=List.mem_map.mp hd
          exact agT sx sy sz q hq) (by rw [List.length_map];exact Nat.le_refl _)) hQ⟩
    refine aha rfl (aep ?_)
    refine adA (fun r:XRow=>D.raw (.ref r.1)) (fun r=>clsF r.2) _ rz (fun r hr M A mm=>?_) ?_
    · obtain ⟨q,hq,eq⟩:=row r hr
      rw [eq,cls q hq] at mm
      have e1:r.2.1=He.ga K q.1:=congrArg (·.1) eq
      refine brT (ahb (r:=r) rfl hr rfl (afx rfl ⟨_,_,_,rfl,q.1,(ok q hq).1,e1,afx rfl ⟨_,_,_,rfl,q.1,(ok q hq).1,e1,?_⟩⟩))
      refine agB rfl rfl (by show 27<=szl;decide) ⟨rfl,?_⟩
      show M (.lst ((xN.take 13).map (fun t=>D.bl (subX q.1 t))++(xN.drop 13).map fun t=>D.bl (subX q.1 t))) _
      rw [<- List.map_append,List.take_append_drop]
      exact mm
    rw [ad3 er clsF (fun q:XSp=>D.lst (xN.map fun t=>.bl (subX q.1 t))) cls]
    refine ahr (by decide) (by decide) ?_
    refine agw (n:=27) (fun k=>D.lst ((List.range 27).map fun j=>D.bl (decide (k=j)))) _ (by decide) (fun k hk M A mm=>?_) ?_
    · refine brT (ahr (by decide) (by decide) ?_)
      refine agw (n:=27) (fun j=>D.bl (decide (k=j))) _ (by decide) (fun j hj M' A' mm'=>?_) mm
      refine brT (l_eqI ?_)
      have e:decide ((k:Int)=(j:Int))=decide (k=j):=by
        by_cases h:k=j
        · rw [decide_eq_true h,decide_eq_true (by omega)]
        · rw [decide_eq_false h,decide_eq_false (by omega)]
      show M' (.bl (decide ((k:Int)=(j:Int)))) _
      rw [e];exact mm'
    refine aio (d:=.lst ((specL x y z).map fun q:XSp=>D.lst (xN.map fun t=>.bl (subX q.1 t)))) (e:=.lst tabK) rfl rfl (ad2 (by rw [List.length_map];exact Nat.le_refl _) fun d hd=>?_) (ad2 (by rw [List.length_map,List.length_range];exact Nat.le_refl _) fun d hd=>?_) ?_
    · obtain ⟨q,hq,rfl⟩:=List.mem_map.mp hd
      exact ⟨xN.map fun t=>subX q.1 t,by rw [List.map_map];rfl,by rw [List.length_map];exact Nat.le_refl _⟩
    · obtain ⟨k,hk,rfl⟩:=List.mem_map.mp hd
      exact ⟨(List.range 27).map fun j=>decide (k=j),by rw [List.map_map];rfl,by rw [List.length_map,List.length_range];exact Nat.le_refl _⟩
    rw [ah6]
    refine brF ?_
    dsimp only [dNext]
    refine agZ (s':=[none,some .src,some (.d x),some (.d y),some (.d z),some (exlD p rows),some (.d (.lst ((specL x y z).map fun q:XSp=>D.str q.1))),some (.own (.lst (bareL.map D.str))),some (.d (.lst ((specL x y z).map fun q:XSp=>D.tup q.2.2))),none,none,none,none,none]) (fun ds=>ds=(specL x y z).map fun q:XSp=>kinS q.1) (fun Q hQ=>?_) (fun ds hds=>?_)
    · refine aha rfl (aep ?_)
      refine adA (fun r:XRow=>D.raw (.ref r.1)) (fun r=>kinF r.2) _ rz (fun r hr M A mm=>?_) (hQ _ (ad3 er kinF _ kin))
      obtain ⟨q,hq,eq⟩:=row r hr
      rw [eq,kin q hq] at mm
      have e1:r.2.1=He.ga K q.1:=congrArg (·.1) eq
      have g:∀ t∈xT,PySem.W.kitOne K (.ref r.2.1) (tvX K t)=some (subX q.1 t):=fun t ht=>by rw [e1];exact ahD T.xt (ok q hq).1 ht
      exact brT (ahb (r:=r) rfl hr rfl (aaZ rfl (g "MilesError" (by decide)) (aaZ rfl (g "ValueError" (by decide)) (aaZ rfl (g "Missing" (by decide)) (aaZ rfl (g "LookupError" (by decide)) (aaZ rfl (g "IndexError" (by decide)) (adh rfl rfl ⟨rfl,mm⟩)))))))
    subst hds
    refine adh rfl rfl (adh rfl rfl (ahs rfl (by decide) (by decide) (by decide) ?_))
    refine adh rfl rfl (adh rfl rfl (ahs rfl (by decide) (by decide) (by decide) ?_))
    refine agB rfl rfl (by decide) ?_
    refine adh rfl rfl (adh rfl rfl ?_)
    refine agB rfl rfl (by decide) ?_
    have five:∀ (d:D) (b1 b2 b3 b4 b5:Bool),d=.lst [.bl b1,.bl b2,.bl b3,.bl b4,.bl b5]->∃ bs:List Bool,d=.lst (bs.map D.bl)/\bs.length<=27:=fun d b1 b2 b3 b4 b5 e=>⟨[b1,b2,b3,b4,b5],e,by show 5<=27;decide⟩
    refine aio (d:=.lst ((specL x y z).map fun q:XSp=>kinS q.1)) (e:=.lst (((List.replicate 24 [D.lst [.bl true,.bl true,.bl false,.bl false,.bl false]]).flatten++(List.replicate 2 [D.lst [.bl false,.bl false,.bl true,.bl true,.bl false]]).flatten)++[D.lst [.bl false,.bl false,.bl false,.bl true,.bl true]])) rfl rfl (ad2 (by rw [List.length_map];exact Nat.le_refl _) fun d hd=>?_) (ad2 (by decide) fun d hd=>?_) ?_
    · obtain ⟨q,hq,rfl⟩:=List.mem_map.mp hd
      exact five _ _ _ _ _ _ rfl
    · rw [ae9,ae9] at hd
      rcases List.mem_append.mp hd with hd | hd
      · rcases List.mem_append.mp hd with hd | hd
        · exact five _ _ _ _ _ _ (List.eq_of_mem_replicate hd)
        · exact five _ _ _ _ _ _ (List.eq_of_mem_replicate hd)
      · exact five _ _ _ _ _ _ (List.mem_singleton.mp hd)
    rw [ahW]
    rfl
end
section
variable {P:Program} {w:World} {K:PySem.W.Frag} {mg:Str->Option Value} {base:Heap} {a:Nat->Addr} {d:Nat->FuncData}
theorem aci:ExT (defBody aak) (defArgs aak) (defScope aak) "self" ["given"] aa7 where
  shape:=⟨_,_,_,_,_,_,_,_,_,rfl,(.con (fun _=>rfl) (.var (fun _=>rfl) (by decide) .nil)),fun _=>⟨_,rfl⟩,fun env h=>by unfold interactive;simp [Env.blockKind,h]<;>rfl,fun _=>rfl⟩
  head:=⟨_,rfl,rfl⟩
  ks:=by decide +kernel
  kc:=by decide +kernel
  loc:=by decide +kernel
  kind:=rfl
  co:=rfl
  gen:=rfl
  cell:=by decide +kernel
  flds:=by intro f hf x hx;simp at hf;first | (subst hf;cases hx;simp) | (rcases hf with rfl | rfl<;>cases hx<;>simp) | (rcases hf with rfl | rfl | rfl<;>cases hx<;>simp) | (rcases hf with rfl | rfl | rfl | rfl<;>cases hx<;>simp)
  nod:=by decide +kernel
  sd:=by decide
  len:=by decide
theorem aeh (e:Addr) (us:List Value) (hl:us.length=(["given"]:List Str).length) (name qual:Str) (doc pm:Value) (an:Option Addr) (cda ct:Value) (cc:Addr):bindArgs (PySem.W.ksFn name qual (defArgs aak) (defBody aak) (defScope aak) .none .none doc pm an cda ct cc) ⟨.ref e::us,[]⟩=pure (((("self":Str)::(["given"]:List Str))).zip (.ref e::us)):=
  match us,hl with
  | [u0],_=>rfl
theorem abX:ExT (defBody aag) (defArgs aag) (defScope aag) "self" ["given"] aa2 where
  shape:=⟨_,_,_,_,_,_,_,_,_,rfl,(.con (fun _=>rfl) (.var (fun _=>rfl) (by decide) .nil)),fun _=>⟨_,rfl⟩,fun env h=>by unfold interactive;simp [Env.blockKind,h]<;>rfl,fun _=>rfl⟩
  head:=⟨_,rfl,rfl⟩
  ks:=by decide +kernel
  kc:=by decide +kernel
  loc:=by decide +kernel
  kind:=rfl
  co:=rfl
  gen:=rfl
  cell:=by decide +kernel
  flds:=by intro f hf x hx;simp at hf;first | (subst hf;cases hx;simp) | (rcases hf with rfl | rfl<;>cases hx<;>simp) | (rcases hf with rfl | rfl | rfl<;>cases hx<;>simp) | (rcases hf with rfl | rfl | rfl | rfl<;>cases hx<;>simp)
  nod:=by decide +kernel
  sd:=by decide
  len:=by decide
theorem adZ (e:Addr) (us:List Value) (hl:us.length=(["given"]:List Str).length) (name qual:Str) (doc pm:Value) (an:Option Addr) (cda ct:Value) (cc:Addr):bindArgs (PySem.W.ksFn name qual (defArgs aag) (defBody aag) (defScope aag) .none .none doc pm an cda ct cc) ⟨.ref e::us,[]⟩=pure (((("self":Str)::(["given"]:List Str))).zip (.ref e::us)):=
  match us,hl with
  | [u0],_=>rfl
theorem acV:ExT (defBody aax) (defArgs aax) (defScope aax) "self" ["given"] abo where
  shape:=⟨_,_,_,_,_,_,_,_,_,rfl,(.con (fun _=>rfl) (.var (fun _=>rfl) (by decide) .nil)),fun _=>⟨_,rfl⟩,fun env h=>by unfold interactive;simp [Env.blockKind,h]<;>rfl,fun _=>rfl⟩
  head:=⟨_,rfl,rfl⟩
  ks:=by decide +kernel
  kc:=by decide +kernel
  loc:=by decide +kernel
  kind:=rfl
  co:=rfl
  gen:=rfl
  cell:=by decide +kernel
  flds:=by intro f hf x hx;simp at hf;first | (subst hf;cases hx;simp) | (rcases hf with rfl | rfl<;>cases hx<;>simp) | (rcases hf with rfl | rfl | rfl<;>cases hx<;>simp) | (rcases hf with rfl | rfl | rfl | rfl<;>cases hx<;>simp)
  nod:=by decide +kernel
  sd:=by decide
  len:=by decide
theorem aeH (e:Addr) (us:List Value) (hl:us.length=(["given"]:List Str).length) (name qual:Str) (doc pm:Value) (an:Option Addr) (cda ct:Value) (cc:Addr):bindArgs (PySem.W.ksFn name qual (defArgs aax) (defBody aax) (defScope aax) .none .none doc pm an cda ct cc) ⟨.ref e::us,[]⟩=pure (((("self":Str)::(["given"]:List Str))).zip (.ref e::us)):=
  match us,hl with
  | [u0],_=>rfl
theorem abY:ExT (defBody aah) (defArgs aah) (defScope aah) "self" ["name"] aa3 where
  shape:=⟨_,_,_,_,_,_,_,_,_,rfl,(.con (fun _=>rfl) (.var (fun _=>rfl) (by decide) .nil)),fun _=>⟨_,rfl⟩,fun env h=>by unfold interactive;simp [Env.blockKind,h]<;>rfl,fun _=>rfl⟩
  head:=⟨_,rfl,rfl⟩
  ks:=by decide +kernel
  kc:=by decide +kernel
  loc:=by decide +kernel
  kind:=rfl
  co:=rfl
  gen:=rfl
  cell:=by decide +kernel
  flds:=by intro f hf x hx;simp at hf;first | (subst hf;cases hx;simp) | (rcases hf with rfl | rfl<;>cases hx<;>simp) | (rcases hf with rfl | rfl | rfl<;>cases hx<;>simp) | (rcases hf with rfl | rfl | rfl | rfl<;>cases hx<;>simp)
  nod:=by decide +kernel
  sd:=by decide
  len:=by decide
theorem ad0 (e:Addr) (us:List Value) (hl:us.length=(["name"]:List Str).length) (name qual:Str) (doc pm:Value) (an:Option Addr) (cda ct:Value) (cc:Addr):bindArgs (PySem.W.ksFn name qual (defArgs aah) (defBody aah) (defScope aah) .none .none doc pm an cda ct cc) ⟨.ref e::us,[]⟩=pure (((("self":Str)::(["name"]:List Str))).zip (.ref e::us)):=
  match us,hl with
  | [u0],_=>rfl
theorem adn:ExT (defBody aaE) (defArgs aaE) (defScope aaE) "self" ["at"] abA where
  shape:=⟨_,_,_,_,_,_,_,_,_,rfl,(.con (fun _=>rfl) (.var (fun _=>rfl) (by decide) .nil)),fun _=>⟨_,rfl⟩,fun env h=>by unfold interactive;simp [Env.blockKind,h]<;>rfl,fun _=>rfl⟩
  head:=⟨_,rfl,rfl⟩
  ks:=by decide +kernel
  kc:=by decide +kernel
  loc:=by decide +kernel
  kind:=rfl
  co:=rfl
  gen:=rfl
  cell:=by decide +kernel
  flds:=by intro f hf x hx;simp at hf;first | (subst hf;cases hx;simp) | (rcases hf with rfl | rfl<;>cases hx<;>simp) | (rcases hf with rfl | rfl | rfl<;>cases hx<;>simp) | (rcases hf with rfl | rfl | rfl | rfl<;>cases hx<;>simp)
  nod:=by decide +kernel
  sd:=by decide
  len:=by decide
theorem ae6 (e:Addr) (us:List Value) (hl:us.length=(["at"]:List Str).length) (name qual:Str) (doc pm:Value) (an:Option Addr) (cda ct:Value) (cc:Addr):bindArgs (PySem.W.ksFn name qual (defArgs aaE) (defBody aaE) (defScope aaE) .none .none doc pm an cda ct cc) ⟨.ref e::us,[]⟩=pure (((("self":Str)::(["at"]:List Str))).zip (.ref e::us)):=
  match us,hl with
  | [u0],_=>rfl
theorem acm:ExT (defBody aao) (defArgs aao) (defScope aao) "self" ["given"] abb where
  shape:=⟨_,_,_,_,_,_,_,_,_,rfl,(.con (fun _=>rfl) (.var (fun _=>rfl) (by decide) .nil)),fun _=>⟨_,rfl⟩,fun env h=>by unfold interactive;simp [Env.blockKind,h]<;>rfl,fun _=>rfl⟩
  head:=⟨_,rfl,rfl⟩
  ks:=by decide +kernel
  kc:=by decide +kernel
  loc:=by decide +kernel
  kind:=rfl
  co:=rfl
  gen:=rfl
  cell:=by decide +kernel
  flds:=by intro f hf x hx;simp at hf;first | (subst hf;cases hx;simp) | (rcases hf with rfl | rfl<;>cases hx<;>simp) | (rcases hf with rfl | rfl | rfl<;>cases hx<;>simp) | (rcases hf with rfl | rfl | rfl | rfl<;>cases hx<;>simp)
  nod:=by decide +kernel
  sd:=by decide
  len:=by decide
theorem ael (e:Addr) (us:List Value) (hl:us.length=(["given"]:List Str).length) (name qual:Str) (doc pm:Value) (an:Option Addr) (cda ct:Value) (cc:Addr):bindArgs (PySem.W.ksFn name qual (defArgs aao) (defBody aao) (defScope aao) .none .none doc pm an cda ct cc) ⟨.ref e::us,[]⟩=pure (((("self":Str)::(["given"]:List Str))).zip (.ref e::us)):=
  match us,hl with
  | [u0],_=>rfl
theorem ach:ExT (defBody aaj) (defArgs aaj) (defScope aaj) "self" ["layer"] aa6 where
  shape:=⟨_,_,_,_,_,_,_,_,_,rfl,(.con (fun _=>rfl) (.var (fun _=>rfl) (by decide) .nil)),fun _=>⟨_,rfl⟩,fun env h=>by unfold interactive;simp [Env.blockKind,h]<;>rfl,fun _=>rfl⟩
  head:=⟨_,rfl,rfl⟩
  ks:=by decide +kernel
  kc:=by decide +kernel
  loc:=by decide +kernel
  kind:=rfl
  co:=rfl
  gen:=rfl
  cell:=by decide +kernel
  flds:=by intro f hf x hx;simp at hf;first | (subst hf;cases hx;simp) | (rcases hf with rfl | rfl<;>cases hx<;>simp) | (rcases hf with rfl | rfl | rfl<;>cases hx<;>simp) | (rcases hf with rfl | rfl | rfl | rfl<;>cases hx<;>simp)
  nod:=by decide +kernel
  sd:=by decide
  len:=by decide
theorem aeg (e:Addr) (us:List Value) (hl:us.length=(["layer"]:List Str).length) (name qual:Str) (doc pm:Value) (an:Option Addr) (cda ct:Value) (cc:Addr):bindArgs (PySem.W.ksFn name qual (defArgs aaj) (defBody aaj) (defScope aaj) .none .none doc pm an cda ct cc) ⟨.ref e::us,[]⟩=pure (((("self":Str)::(["layer"]:List Str))).zip (.ref e::us)):=
  match us,hl with
  | [u0],_=>rfl
theorem adm:ExT (defBody aaD) (defArgs aaD) (defScope aaD) "self" ["layer","start","goal"] abz where
  shape:=⟨_,_,_,_,_,_,_,_,_,rfl,(.con (fun _=>rfl) (.var (fun _=>rfl) (by decide) (.var (fun _=>rfl) (by decide) (.var (fun _=>rfl) (by decide) .nil)))),fun _=>⟨_,rfl⟩,fun env h=>by unfold interactive;simp [Env.blockKind,h]<;>rfl,fun _=>rfl⟩
  head:=⟨_,rfl,rfl⟩
  ks:=by decide +kernel
  kc:=by decide +kernel
  loc:=by decide +kernel
  kind:=rfl
  co:=rfl
  gen:=rfl
  cell:=by decide +kernel
  flds:=by intro f hf x hx;simp at hf;first | (subst hf;cases hx;simp) | (rcases hf with rfl | rfl<;>cases hx<;>simp) | (rcases hf with rfl | rfl | rfl<;>cases hx<;>simp) | (rcases hf with rfl | rfl | rfl | rfl<;>cases hx<;>simp)
  nod:=by decide +kernel
  sd:=by decide
  len:=by decide
theorem ae5 (e:Addr) (us:List Value) (hl:us.length=(["layer","start","goal"]:List Str).length) (name qual:Str) (doc pm:Value) (an:Option Addr) (cda ct:Value) (cc:Addr):bindArgs (PySem.W.ksFn name qual (defArgs aaD) (defBody aaD) (defScope aaD) .none .none doc pm an cda ct cc) ⟨.ref e::us,[]⟩=pure (((("self":Str)::(["layer","start","goal"]:List Str))).zip (.ref e::us)):=
  match us,hl with
  | [u0,u1,u2],_=>rfl
theorem ack:ExT (defBody aam) (defArgs aam) (defScope aam) "self" ["given"] aa9 where
  shape:=⟨_,_,_,_,_,_,_,_,_,rfl,(.con (fun _=>rfl) (.var (fun _=>rfl) (by decide) .nil)),fun _=>⟨_,rfl⟩,fun env h=>by unfold interactive;simp [Env.blockKind,h]<;>rfl,fun _=>rfl⟩
  head:=⟨_,rfl,rfl⟩
  ks:=by decide +kernel
  kc:=by decide +kernel
  loc:=by decide +kernel
  kind:=rfl
  co:=rfl
  gen:=rfl
  cell:=by decide +kernel
  flds:=by intro f hf x hx;simp at hf;first | (subst hf;cases hx;simp) | (rcases hf with rfl | rfl<;>cases hx<;>simp) | (rcases hf with rfl | rfl | rfl<;>cases hx<;>simp) | (rcases hf with rfl | rfl | rfl | rfl<;>cases hx<;>simp)
  nod:=by decide +kernel
  sd:=by decide
  len:=by decide
theorem aej (e:Addr) (us:List Value) (hl:us.length=(["given"]:List Str).length) (name qual:Str) (doc pm:Value) (an:Option Addr) (cda ct:Value) (cc:Addr):bindArgs (PySem.W.ksFn name qual (defArgs aam) (defBody aam) (defScope aam) .none .none doc pm an cda ct cc) ⟨.ref e::us,[]⟩=pure (((("self":Str)::(["given"]:List Str))).zip (.ref e::us)):=
  match us,hl with
  | [u0],_=>rfl
theorem acj:ExT (defBody aal) (defArgs aal) (defScope aal) "self" ["given"] aa8 where
  shape:=⟨_,_,_,_,_,_,_,_,_,rfl,(.con (fun _=>rfl) (.var (fun _=>rfl) (by decide) .nil)),fun _=>⟨_,rfl⟩,fun env h=>by unfold interactive;simp [Env.blockKind,h]<;>rfl,fun _=>rfl⟩
  head:=⟨_,rfl,rfl⟩
  ks:=by decide +kernel
  kc:=by decide +kernel
  loc:=by decide +kernel
  kind:=rfl
  co:=rfl
  gen:=rfl
  cell:=by decide +kernel
  flds:=by intro f hf x hx;simp at hf;first | (subst hf;cases hx;simp) | (rcases hf with rfl | rfl<;>cases hx<;>simp) | (rcases hf with rfl | rfl | rfl<;>cases hx<;>simp) | (rcases hf with rfl | rfl | rfl | rfl<;>cases hx<;>simp)
  nod:=by decide +kernel
  sd:=by decide
  len:=by decide
theorem aei (e:Addr) (us:List Value) (hl:us.length=(["given"]:List Str).length) (name qual:Str) (doc pm:Value) (an:Option Addr) (cda ct:Value) (cc:Addr):bindArgs (PySem.W.ksFn name qual (defArgs aal) (defBody aal) (defScope aal) .none .none doc pm an cda ct cc) ⟨.ref e::us,[]⟩=pure (((("self":Str)::(["given"]:List Str))).zip (.ref e::us)):=
  match us,hl with
  | [u0],_=>rfl
theorem acW:ExT (defBody aay) (defArgs aay) (defScope aay) "self" ["given"] abp where
  shape:=⟨_,_,_,_,_,_,_,_,_,rfl,(.con (fun _=>rfl) (.var (fun _=>rfl) (by decide) .nil)),fun _=>⟨_,rfl⟩,fun env h=>by unfold interactive;simp [Env.blockKind,h]<;>rfl,fun _=>rfl⟩
  head:=⟨_,rfl,rfl⟩
  ks:=by decide +kernel
  kc:=by decide +kernel
  loc:=by decide +kernel
  kind:=rfl
  co:=rfl
  gen:=rfl
  cell:=by decide +kernel
  flds:=by intro f hf x hx;simp at hf;first | (subst hf;cases hx;simp) | (rcases hf with rfl | rfl<;>cases hx<;>simp) | (rcases hf with rfl | rfl | rfl<;>cases hx<;>simp) | (rcases hf with rfl | rfl | rfl | rfl<;>cases hx<;>simp)
  nod:=by decide +kernel
  sd:=by decide
  len:=by decide
theorem aeI (e:Addr) (us:List Value) (hl:us.length=(["given"]:List Str).length) (name qual:Str) (doc pm:Value) (an:Option Addr) (cda ct:Value) (cc:Addr):bindArgs (PySem.W.ksFn name qual (defArgs aay) (defBody aay) (defScope aay) .none .none doc pm an cda ct cc) ⟨.ref e::us,[]⟩=pure (((("self":Str)::(["given"]:List Str))).zip (.ref e::us)):=
  match us,hl with
  | [u0],_=>rfl
theorem acT:ExT (defBody aav) (defArgs aav) (defScope aav) "self" ["path"] abm where
  shape:=⟨_,_,_,_,_,_,_,_,_,rfl,(.con (fun _=>rfl) (.var (fun _=>rfl) (by decide) .nil)),fun _=>⟨_,rfl⟩,fun env h=>by unfold interactive;simp [Env.blockKind,h]<;>rfl,fun _=>rfl⟩
  head:=⟨_,rfl,rfl⟩
  ks:=by decide +kernel
  kc:=by decide +kernel
  loc:=by decide +kernel
  kind:=rfl
  co:=rfl
  gen:=rfl
  cell:=by decide +kernel
  flds:=by intro f hf x hx;simp at hf;first | (subst hf;cases hx;simp) | (rcases hf with rfl | rfl<;>cases hx<;>simp) | (rcases hf with rfl | rfl | rfl<;>cases hx<;>simp) | (rcases hf with rfl | rfl | rfl | rfl<;>cases hx<;>simp)
  nod:=by decide +kernel
  sd:=by decide
  len:=by decide
theorem aeF (e:Addr) (us:List Value) (hl:us.length=(["path"]:List Str).length) (name qual:Str) (doc pm:Value) (an:Option Addr) (cda ct:Value) (cc:Addr):bindArgs (PySem.W.ksFn name qual (defArgs aav) (defBody aav) (defScope aav) .none .none doc pm an cda ct cc) ⟨.ref e::us,[]⟩=pure (((("self":Str)::(["path"]:List Str))).zip (.ref e::us)):=
  match us,hl with
  | [u0],_=>rfl
theorem adl:ExT (defBody aaC) (defArgs aaC) (defScope aaC) "self" ["path"] aby where
  shape:=⟨_,_,_,_,_,_,_,_,_,rfl,(.con (fun _=>rfl) (.var (fun _=>rfl) (by decide) .nil)),fun _=>⟨_,rfl⟩,fun env h=>by unfold interactive;simp [Env.blockKind,h]<;>rfl,fun _=>rfl⟩
  head:=⟨_,rfl,rfl⟩
  ks:=by decide +kernel
  kc:=by decide +kernel
  loc:=by decide +kernel
  kind:=rfl
  co:=rfl
  gen:=rfl
  cell:=by decide +kernel
  flds:=by intro f hf x hx;simp at hf;first | (subst hf;cases hx;simp) | (rcases hf with rfl | rfl<;>cases hx<;>simp) | (rcases hf with rfl | rfl | rfl<;>cases hx<;>simp) | (rcases hf with rfl | rfl | rfl | rfl<;>cases hx<;>simp)
  nod:=by decide +kernel
  sd:=by decide
  len:=by decide
theorem ae4 (e:Addr) (us:List Value) (hl:us.length=(["path"]:List Str).length) (name qual:Str) (doc pm:Value) (an:Option Addr) (cda ct:Value) (cc:Addr):bindArgs (PySem.W.ksFn name qual (defArgs aaC) (defBody aaC) (defScope aaC) .none .none doc pm an cda ct cc) ⟨.ref e::us,[]⟩=pure (((("self":Str)::(["path"]:List Str))).zip (.ref e::us)):=
  match us,hl with
  | [u0],_=>rfl
theorem acS:ExT (defBody aau) (defArgs aau) (defScope aau) "self" ["word"] abl where
  shape:=⟨_,_,_,_,_,_,_,_,_,rfl,(.con (fun _=>rfl) (.var (fun _=>rfl) (by decide) .nil)),fun _=>⟨_,rfl⟩,fun env h=>by unfold interactive;simp [Env.blockKind,h]<;>rfl,fun _=>rfl⟩
  head:=⟨_,rfl,rfl⟩
  ks:=by decide +kernel
  kc:=by decide +kernel
  loc:=by decide +kernel
  kind:=rfl
  co:=rfl
  gen:=rfl
  cell:=by decide +kernel
  flds:=by intro f hf x hx;simp at hf;first | (subst hf;cases hx;simp) | (rcases hf with rfl | rfl<;>cases hx<;>simp) | (rcases hf with rfl | rfl | rfl<;>cases hx<;>simp) | (rcases hf with rfl | rfl | rfl | rfl<;>cases hx<;>simp)
  nod:=by decide +kernel
  sd:=by decide
  len:=by decide
theorem aeE (e:Addr) (us:List Value) (hl:us.length=(["word"]:List Str).length) (name qual:Str) (doc pm:Value) (an:Option Addr) (cda ct:Value) (cc:Addr):bindArgs (PySem.W.ksFn name qual (defArgs aau) (defBody aau) (defScope aau) .none .none doc pm an cda ct cc) ⟨.ref e::us,[]⟩=pure (((("self":Str)::(["word"]:List Str))).zip (.ref e::us)):=
  match us,hl with
  | [u0],_=>rfl
theorem acX:ExT (defBody aaz) (defArgs aaz) (defScope aaz) "self" ["at"] abq where
  shape:=⟨_,_,_,_,_,_,_,_,_,rfl,(.con (fun _=>rfl) (.var (fun _=>rfl) (by decide) .nil)),fun _=>⟨_,rfl⟩,fun env h=>by unfold interactive;simp [Env.blockKind,h]<;>rfl,fun _=>rfl⟩
  head:=⟨_,rfl,rfl⟩
  ks:=by decide +kernel
  kc:=by decide +kernel
  loc:=by decide +kernel
  kind:=rfl
  co:=rfl
  gen:=rfl
  cell:=by decide +kernel
  flds:=by intro f hf x hx;simp at hf;first | (subst hf;cases hx;simp) | (rcases hf with rfl | rfl<;>cases hx<;>simp) | (rcases hf with rfl | rfl | rfl<;>cases hx<;>simp) | (rcases hf with rfl | rfl | rfl | rfl<;>cases hx<;>simp)
  nod:=by decide +kernel
  sd:=by decide
  len:=by decide
theorem aeJ (e:Addr) (us:List Value) (hl:us.length=(["at"]:List Str).length) (name qual:Str) (doc pm:Value) (an:Option Addr) (cda ct:Value) (cc:Addr):bindArgs (PySem.W.ksFn name qual (defArgs aaz) (defBody aaz) (defScope aaz) .none .none doc pm an cda ct cc) ⟨.ref e::us,[]⟩=pure (((("self":Str)::(["at"]:List Str))).zip (.ref e::us)):=
  match us,hl with
  | [u0],_=>rfl
theorem abV:ExT (defBody aae) (defArgs aae) (defScope aae) "self" [] aa0 where
  shape:=⟨_,_,_,_,_,_,_,_,_,rfl,(.con (fun _=>rfl) .nil),fun _=>⟨_,rfl⟩,fun env h=>by unfold interactive;simp [Env.blockKind,h]<;>rfl,fun _=>rfl⟩
  head:=⟨_,rfl,rfl⟩
  ks:=by decide +kernel
  kc:=by decide +kernel
  loc:=by decide +kernel
  kind:=rfl
  co:=rfl
  gen:=rfl
  cell:=by decide +kernel
  flds:=by intro f hf x hx;simp at hf;first | (subst hf;cases hx;simp) | (rcases hf with rfl | rfl<;>cases hx<;>simp) | (rcases hf with rfl | rfl | rfl<;>cases hx<;>simp) | (rcases hf with rfl | rfl | rfl | rfl<;>cases hx<;>simp)
  nod:=by decide +kernel
  sd:=by decide
  len:=by decide
theorem adX (e:Addr) (us:List Value) (hl:us.length=([]:List Str).length) (name qual:Str) (doc pm:Value) (an:Option Addr) (cda ct:Value) (cc:Addr):bindArgs (PySem.W.ksFn name qual (defArgs aae) (defBody aae) (defScope aae) .none .none doc pm an cda ct cc) ⟨.ref e::us,[]⟩=pure (((("self":Str)::([]:List Str))).zip (.ref e::us)):=
  match us,hl with
  | [],_=>rfl
theorem acg:ExT (defBody aai) (defArgs aai) (defScope aai) "self" [] aa5 where
  shape:=⟨_,_,_,_,_,_,_,_,_,rfl,(.con (fun _=>rfl) .nil),fun _=>⟨_,rfl⟩,fun env h=>by unfold interactive;simp [Env.blockKind,h]<;>rfl,fun _=>rfl⟩
  head:=⟨_,rfl,rfl⟩
  ks:=by decide +kernel
  kc:=by decide +kernel
  loc:=by decide +kernel
  kind:=rfl
  co:=rfl
  gen:=rfl
  cell:=by decide +kernel
  flds:=by intro f hf x hx;simp at hf;first | (subst hf;cases hx;simp) | (rcases hf with rfl | rfl<;>cases hx<;>simp) | (rcases hf with rfl | rfl | rfl<;>cases hx<;>simp) | (rcases hf with rfl | rfl | rfl | rfl<;>cases hx<;>simp)
  nod:=by decide +kernel
  sd:=by decide
  len:=by decide
theorem aef (e:Addr) (us:List Value) (hl:us.length=([]:List Str).length) (name qual:Str) (doc pm:Value) (an:Option Addr) (cda ct:Value) (cc:Addr):bindArgs (PySem.W.ksFn name qual (defArgs aai) (defBody aai) (defScope aai) .none .none doc pm an cda ct cc) ⟨.ref e::us,[]⟩=pure (((("self":Str)::([]:List Str))).zip (.ref e::us)):=
  match us,hl with
  | [],_=>rfl
theorem ad5:ExT (defBody aaI) (defArgs aaI) (defScope aaI) "self" [] abR where
  shape:=⟨_,_,_,_,_,_,_,_,_,rfl,(.con (fun _=>rfl) .nil),fun _=>⟨_,rfl⟩,fun env h=>by unfold interactive;simp [Env.blockKind,h]<;>rfl,fun _=>rfl⟩
  head:=⟨_,rfl,rfl⟩
  ks:=by decide +kernel
  kc:=by decide +kernel
  loc:=by decide +kernel
  kind:=rfl
  co:=rfl
  gen:=rfl
  cell:=by decide +kernel
  flds:=by intro f hf x hx;simp at hf;first | (subst hf;cases hx;simp) | (rcases hf with rfl | rfl<;>cases hx<;>simp) | (rcases hf with rfl | rfl | rfl<;>cases hx<;>simp) | (rcases hf with rfl | rfl | rfl | rfl<;>cases hx<;>simp)
  nod:=by decide +kernel
  sd:=by decide
  len:=by decide
theorem afu (e:Addr) (us:List Value) (hl:us.length=([]:List Str).length) (name qual:Str) (doc pm:Value) (an:Option Addr) (cda ct:Value) (cc:Addr):bindArgs (PySem.W.ksFn name qual (defArgs aaI) (defBody aaI) (defScope aaI) .none .none doc pm an cda ct cc) ⟨.ref e::us,[]⟩=pure (((("self":Str)::([]:List Str))).zip (.ref e::us)):=
  match us,hl with
  | [],_=>rfl
theorem aeP:ExT (defBody aaM) (defArgs aaM) (defScope aaM) "self" [] acJ where
  shape:=⟨_,_,_,_,_,_,_,_,_,rfl,(.con (fun _=>rfl) .nil),fun _=>⟨_,rfl⟩,fun env h=>by unfold interactive;simp [Env.blockKind,h]<;>rfl,fun _=>rfl⟩
  head:=⟨_,rfl,rfl⟩
  ks:=by decide +kernel
  kc:=by decide +kernel
  loc:=by decide +kernel
  kind:=rfl
  co:=rfl
  gen:=rfl
  cell:=by decide +kernel
  flds:=by intro f hf x hx;simp at hf;first | (subst hf;cases hx;simp) | (rcases hf with rfl | rfl<;>cases hx<;>simp) | (rcases hf with rfl | rfl | rfl<;>cases hx<;>simp) | (rcases hf with rfl | rfl | rfl | rfl<;>cases hx<;>simp)
  nod:=by decide +kernel
  sd:=by decide
  len:=by decide
theorem afV (e:Addr) (us:List Value) (hl:us.length=([]:List Str).length) (name qual:Str) (doc pm:Value) (an:Option Addr) (cda ct:Value) (cc:Addr):bindArgs (PySem.W.ksFn name qual (defArgs aaM) (defBody aaM) (defScope aaM) .none .none doc pm an cda ct cc) ⟨.ref e::us,[]⟩=pure (((("self":Str)::([]:List Str))).zip (.ref e::us)):=
  match us,hl with
  | [],_=>rfl
theorem abJ:ExT (defBody aac) (defArgs aac) (defScope aac) "self" ["at"] aaV where
  shape:=⟨_,_,_,_,_,_,_,_,_,rfl,(.con (fun _=>rfl) (.var (fun _=>rfl) (by decide) .nil)),fun _=>⟨_,rfl⟩,fun env h=>by unfold interactive;simp [Env.blockKind,h]<;>rfl,fun _=>rfl⟩
  head:=⟨_,rfl,rfl⟩
  ks:=by decide +kernel
  kc:=by decide +kernel
  loc:=by decide +kernel
  kind:=rfl
  co:=rfl
  gen:=rfl
  cell:=by decide +kernel
  flds:=by intro f hf x hx;simp at hf;first | (subst hf;cases hx;simp) | (rcases hf with rfl | rfl<;>cases hx<;>simp) | (rcases hf with rfl | rfl | rfl<;>cases hx<;>simp) | (rcases hf with rfl | rfl | rfl | rfl<;>cases hx<;>simp)
  nod:=by decide +kernel
  sd:=by decide
  len:=by decide
theorem adJ (e:Addr) (us:List Value) (hl:us.length=(["at"]:List Str).length) (name qual:Str) (doc pm:Value) (an:Option Addr) (cda ct:Value) (cc:Addr):bindArgs (PySem.W.ksFn name qual (defArgs aac) (defBody aac) (defScope aac) .none .none doc pm an cda ct cc) ⟨.ref e::us,[]⟩=pure (((("self":Str)::(["at"]:List Str))).zip (.ref e::us)):=
  match us,hl with
  | [u0],_=>rfl
theorem acl:ExT (defBody aan) (defArgs aan) (defScope aan) "self" ["given"] aba where
  shape:=⟨_,_,_,_,_,_,_,_,_,rfl,(.con (fun _=>rfl) (.var (fun _=>rfl) (by decide) .nil)),fun _=>⟨_,rfl⟩,fun env h=>by unfold interactive;simp [Env.blockKind,h]<;>rfl,fun _=>rfl⟩
  head:=⟨_,rfl,rfl⟩
  ks:=by decide +kernel
  kc:=by decide +kernel
  loc:=by decide +kernel
  kind:=rfl
  co:=rfl
  gen:=rfl
  cell:=by decide +kernel
  flds:=by intro f hf x hx;simp at hf;first | (subst hf;cases hx;simp) | (rcases hf with rfl | rfl<;>cases hx<;>simp) | (rcases hf with rfl | rfl | rfl<;>cases hx<;>simp) | (rcases hf with rfl | rfl | rfl | rfl<;>cases hx<;>simp)
  nod:=by decide +kernel
  sd:=by decide
  len:=by decide
theorem aek (e:Addr) (us:List Value) (hl:us.length=(["given"]:List Str).length) (name qual:Str) (doc pm:Value) (an:Option Addr) (cda ct:Value) (cc:Addr):bindArgs (PySem.W.ksFn name qual (defArgs aan) (defBody aan) (defScope aan) .none .none doc pm an cda ct cc) ⟨.ref e::us,[]⟩=pure (((("self":Str)::(["given"]:List Str))).zip (.ref e::us)):=
  match us,hl with
  | [u0],_=>rfl
theorem af2:ExT (defBody abw) (defArgs abw) (defScope abw) "self" ["limit"] ae2 where
  shape:=⟨_,_,_,_,_,_,_,_,_,rfl,(.con (fun _=>rfl) (.var (fun _=>rfl) (by decide) .nil)),fun _=>⟨_,rfl⟩,fun env h=>by unfold interactive;simp [Env.blockKind,h]<;>rfl,fun _=>rfl⟩
  head:=⟨_,rfl,rfl⟩
  ks:=by decide +kernel
  kc:=by decide +kernel
  loc:=by decide +kernel
  kind:=rfl
  co:=rfl
  gen:=rfl
  cell:=by decide +kernel
  flds:=by intro f hf x hx;simp at hf;first | (subst hf;cases hx;simp) | (rcases hf with rfl | rfl<;>cases hx<;>simp) | (rcases hf with rfl | rfl | rfl<;>cases hx<;>simp) | (rcases hf with rfl | rfl | rfl | rfl<;>cases hx<;>simp)
  nod:=by decide +kernel
  sd:=by decide
  len:=by decide
theorem ahF (e:Addr) (us:List Value) (hl:us.length=(["limit"]:List Str).length) (name qual:Str) (doc pm:Value) (an:Option Addr) (cda ct:Value) (cc:Addr):bindArgs (PySem.W.ksFn name qual (defArgs abw) (defBody abw) (defScope abw) .none .none doc pm an cda ct cc) ⟨.ref e::us,[]⟩=pure (((("self":Str)::(["limit"]:List Str))).zip (.ref e::us)):=
  match us,hl with
  | [u0],_=>rfl
theorem acU:ExT (defBody aaw) (defArgs aaw) (defScope aaw) "self" ["line"] abn where
  shape:=⟨_,_,_,_,_,_,_,_,_,rfl,(.con (fun _=>rfl) (.var (fun _=>rfl) (by decide) .nil)),fun _=>⟨_,rfl⟩,fun env h=>by unfold interactive;simp [Env.blockKind,h]<;>rfl,fun _=>rfl⟩
  head:=⟨_,rfl,rfl⟩
  ks:=by decide +kernel
  kc:=by decide +kernel
  loc:=by decide +kernel
  kind:=rfl
  co:=rfl
  gen:=rfl
  cell:=by decide +kernel
  flds:=by intro f hf x hx;simp at hf;first | (subst hf;cases hx;simp) | (rcases hf with rfl | rfl<;>cases hx<;>simp) | (rcases hf with rfl | rfl | rfl<;>cases hx<;>simp) | (rcases hf with rfl | rfl | rfl | rfl<;>cases hx<;>simp)
  nod:=by decide +kernel
  sd:=by decide
  len:=by decide
theorem aeG (e:Addr) (us:List Value) (hl:us.length=(["line"]:List Str).length) (name qual:Str) (doc pm:Value) (an:Option Addr) (cda ct:Value) (cc:Addr):bindArgs (PySem.W.ksFn name qual (defArgs aaw) (defBody aaw) (defScope aaw) .none .none doc pm an cda ct cc) ⟨.ref e::us,[]⟩=pure (((("self":Str)::(["line"]:List Str))).zip (.ref e::us)):=
  match us,hl with
  | [u0],_=>rfl
theorem aeO:ExT (defBody aaL) (defArgs aaL) (defScope aaL) "self" ["subject","most"] acI where
  shape:=⟨_,_,_,_,_,_,_,_,_,rfl,(.con (fun _=>rfl) (.var (fun _=>rfl) (by decide) (.var (fun _=>rfl) (by decide) .nil))),fun _=>⟨_,rfl⟩,fun env h=>by unfold interactive;simp [Env.blockKind,h]<;>rfl,fun _=>rfl⟩
  head:=⟨_,rfl,rfl⟩
  ks:=by decide +kernel
  kc:=by decide +kernel
  loc:=by decide +kernel
  kind:=rfl
  co:=rfl
  gen:=rfl
  cell:=by decide +kernel
  flds:=by intro f hf x hx;simp at hf;first | (subst hf;cases hx;simp) | (rcases hf with rfl | rfl<;>cases hx<;>simp) | (rcases hf with rfl | rfl | rfl<;>cases hx<;>simp) | (rcases hf with rfl | rfl | rfl | rfl<;>cases hx<;>simp)
  nod:=by decide +kernel
  sd:=by decide
  len:=by decide
theorem afU (e:Addr) (us:List Value) (hl:us.length=(["subject","most"]:List Str).length) (name qual:Str) (doc pm:Value) (an:Option Addr) (cda ct:Value) (cc:Addr):bindArgs (PySem.W.ksFn name qual (defArgs aaL) (defBody aaL) (defScope aaL) .none .none doc pm an cda ct cc) ⟨.ref e::us,[]⟩=pure (((("self":Str)::(["subject","most"]:List Str))).zip (.ref e::us)):=
  match us,hl with
  | [u0,u1],_=>rfl
theorem acQ:ExT (defBody aas) (defArgs aas) (defScope aas) "self" ["name"] abj where
  shape:=⟨_,_,_,_,_,_,_,_,_,rfl,(.con (fun _=>rfl) (.var (fun _=>rfl) (by decide) .nil)),fun _=>⟨_,rfl⟩,fun env h=>by unfold interactive;simp [Env.blockKind,h]<;>rfl,fun _=>rfl⟩
  head:=⟨_,rfl,rfl⟩
  ks:=by decide +kernel
  kc:=by decide +kernel
  loc:=by decide +kernel
  kind:=rfl
  co:=rfl
  gen:=rfl
  cell:=by decide +kernel
  flds:=by intro f hf x hx;simp at hf;first | (subst hf;cases hx;simp) | (rcases hf with rfl | rfl<;>cases hx<;>simp) | (rcases hf with rfl | rfl | rfl<;>cases hx<;>simp) | (rcases hf with rfl | rfl | rfl | rfl<;>cases hx<;>simp)
  nod:=by decide +kernel
  sd:=by decide
  len:=by decide
theorem aeC (e:Addr) (us:List Value) (hl:us.length=(["name"]:List Str).length) (name qual:Str) (doc pm:Value) (an:Option Addr) (cda ct:Value) (cc:Addr):bindArgs (PySem.W.ksFn name qual (defArgs aas) (defBody aas) (defScope aas) .none .none doc pm an cda ct cc) ⟨.ref e::us,[]⟩=pure (((("self":Str)::(["name"]:List Str))).zip (.ref e::us)):=
  match us,hl with
  | [u0],_=>rfl
theorem abW:ExT (defBody aaf) (defArgs aaf) (defScope aaf) "self" ["word"] aa1 where
  shape:=⟨_,_,_,_,_,_,_,_,_,rfl,(.con (fun _=>rfl) (.var (fun _=>rfl) (by decide) .nil)),fun _=>⟨_,rfl⟩,fun env h=>by unfold interactive;simp [Env.blockKind,h]<;>rfl,fun _=>rfl⟩
  head:=⟨_,rfl,rfl⟩
  ks:=by decide +kernel
  kc:=by decide +kernel
  loc:=by decide +kernel
  kind:=rfl
  co:=rfl
  gen:=rfl
  cell:=by decide +kernel
  flds:=by intro f hf x hx;simp at hf;first | (subst hf;cases hx;simp) | (rcases hf with rfl | rfl<;>cases hx<;>simp) | (rcases hf with rfl | rfl | rfl<;>cases hx<;>simp) | (rcases hf with rfl | rfl | rfl | rfl<;>cases hx<;>simp)
  nod:=by decide +kernel
  sd:=by decide
  len:=by decide
theorem adY (e:Addr) (us:List Value) (hl:us.length=(["word"]:List Str).length) (name qual:Str) (doc pm:Value) (an:Option Addr) (cda ct:Value) (cc:Addr):bindArgs (PySem.W.ksFn name qual (defArgs aaf) (defBody aaf) (defScope aaf) .none .none doc pm an cda ct cc) ⟨.ref e::us,[]⟩=pure (((("self":Str)::(["word"]:List Str))).zip (.ref e::us)):=
  match us,hl with
  | [u0],_=>rfl
theorem acR:ExT (defBody aat) (defArgs aat) (defScope aat) "self" [] abk where
  shape:=⟨_,_,_,_,_,_,_,_,_,rfl,(.con (fun _=>rfl) .nil),fun _=>⟨_,rfl⟩,fun env h=>by unfold interactive;simp [Env.blockKind,h]<;>rfl,fun _=>rfl⟩
  head:=⟨_,rfl,rfl⟩
  ks:=by decide +kernel
  kc:=by decide +kernel
  loc:=by decide +kernel
  kind:=rfl
  co:=rfl
  gen:=rfl
  cell:=by decide +kernel
  flds:=by intro f hf x hx;simp at hf;first | (subst hf;cases hx;simp) | (rcases hf with rfl | rfl<;>cases hx<;>simp) | (rcases hf with rfl | rfl | rfl<;>cases hx<;>simp) | (rcases hf with rfl | rfl | rfl | rfl<;>cases hx<;>simp)
  nod:=by decide +kernel
  sd:=by decide
  len:=by decide
theorem aeD (e:Addr) (us:List Value) (hl:us.length=([]:List Str).length) (name qual:Str) (doc pm:Value) (an:Option Addr) (cda ct:Value) (cc:Addr):bindArgs (PySem.W.ksFn name qual (defArgs aat) (defBody aat) (defScope aat) .none .none doc pm an cda ct cc) ⟨.ref e::us,[]⟩=pure (((("self":Str)::([]:List Str))).zip (.ref e::us)):=
  match us,hl with
  | [],_=>rfl
theorem abe {l:LX} {fa:List He.Fa} {fn:List He.DefD} {h:Heap} {K:PySem.W.Frag} (S:SaysX l fa fn h K) {i:Nat} (e:l.xs[i]?=some (fun K=>xtB K)):xtB K=true:=List.all_eq_true.mp (He.ba (He.ba S.c).2).2 _ (List.mem_of_getElem? e)
theorem adG (e:Addr) (us ws:List Value) (h1:us.length=0) (h2:ws.length=([]:List Str).length) (name qual:Str) (doc pm:Value) (an:Option Addr) (cda ct:Value) (cc:Addr):bindArgs (PySem.W.ksFn name qual (defArgs aat) (defBody aat) (defScope aat) .none .none doc pm an cda ct cc) ⟨.ref e::us,([]:List Str).zip ws⟩=pure (((("self":Str)::([]:List Str))).zip (.ref e::(us++ws))):=
  match us,ws,h1,h2 with
  | [],[],_,_=>rfl
theorem abM (e:Addr) (us ws:List Value) (h1:us.length=0) (h2:ws.length=(["word"]:List Str).length) (name qual:Str) (doc pm:Value) (an:Option Addr) (cda ct:Value) (cc:Addr):bindArgs (PySem.W.ksFn name qual (defArgs aaf) (defBody aaf) (defScope aaf) .none .none doc pm an cda ct cc) ⟨.ref e::us,(["word"]:List Str).zip ws⟩=pure (((("self":Str)::(["word"]:List Str))).zip (.ref e::(us++ws))):=
  match us,ws,h1,h2 with
  | [],[v0],_,_=>rfl
theorem adF (e:Addr) (us ws:List Value) (h1:us.length=1) (h2:ws.length=([]:List Str).length) (name qual:Str) (doc pm:Value) (an:Option Addr) (cda ct:Value) (cc:Addr):bindArgs (PySem.W.ksFn name qual (defArgs aas) (defBody aas) (defScope aas) .none .none doc pm an cda ct cc) ⟨.ref e::us,([]:List Str).zip ws⟩=pure (((("self":Str)::(["name"]:List Str))).zip (.ref e::(us++ws))):=
  match us,ws,h1,h2 with
  | [u0],[],_,_=>rfl
theorem adv (e:Addr) (us ws:List Value) (h1:us.length=1) (h2:ws.length=(["most"]:List Str).length) (name qual:Str) (doc pm:Value) (an:Option Addr) (cda ct:Value) (cc:Addr):bindArgs (PySem.W.ksFn name qual (defArgs aaL) (defBody aaL) (defScope aaL) .none .none doc pm an cda ct cc) ⟨.ref e::us,(["most"]:List Str).zip ws⟩=pure (((("self":Str)::(["subject","most"]:List Str))).zip (.ref e::(us++ws))):=
  match us,ws,h1,h2 with
  | [u0],[v0],_,_=>rfl
theorem ace (e:Addr) (us ws:List Value) (h1:us.length=0) (h2:ws.length=(["line"]:List Str).length) (name qual:Str) (doc pm:Value) (an:Option Addr) (cda ct:Value) (cc:Addr):bindArgs (PySem.W.ksFn name qual (defArgs aaw) (defBody aaw) (defScope aaw) .none .none doc pm an cda ct cc) ⟨.ref e::us,(["line"]:List Str).zip ws⟩=pure (((("self":Str)::(["line"]:List Str))).zip (.ref e::(us++ws))):=
  match us,ws,h1,h2 with
  | [],[v0],_,_=>rfl
theorem adW (e:Addr) (us ws:List Value) (h1:us.length=0) (h2:ws.length=(["limit"]:List Str).length) (name qual:Str) (doc pm:Value) (an:Option Addr) (cda ct:Value) (cc:Addr):bindArgs (PySem.W.ksFn name qual (defArgs abw) (defBody abw) (defScope abw) .none .none doc pm an cda ct cc) ⟨.ref e::us,(["limit"]:List Str).zip ws⟩=pure (((("self":Str)::(["limit"]:List Str))).zip (.ref e::(us++ws))):=
  match us,ws,h1,h2 with
  | [],[v0],_,_=>rfl
theorem ady (e:Addr) (us ws:List Value) (h1:us.length=1) (h2:ws.length=([]:List Str).length) (name qual:Str) (doc pm:Value) (an:Option Addr) (cda ct:Value) (cc:Addr):bindArgs (PySem.W.ksFn name qual (defArgs aan) (defBody aan) (defScope aan) .none .none doc pm an cda ct cc) ⟨.ref e::us,([]:List Str).zip ws⟩=pure (((("self":Str)::(["given"]:List Str))).zip (.ref e::(us++ws))):=
  match us,ws,h1,h2 with
  | [u0],[],_,_=>rfl
theorem acM (e:Addr) (us ws:List Value) (h1:us.length=1) (h2:ws.length=([]:List Str).length) (name qual:Str) (doc pm:Value) (an:Option Addr) (cda ct:Value) (cc:Addr):bindArgs (PySem.W.ksFn name qual (defArgs aac) (defBody aac) (defScope aac) .none .none doc pm an cda ct cc) ⟨.ref e::us,([]:List Str).zip ws⟩=pure (((("self":Str)::(["at"]:List Str))).zip (.ref e::(us++ws))):=
  match us,ws,h1,h2 with
  | [u0],[],_,_=>rfl
theorem ae3 (e:Addr) (us ws:List Value) (h1:us.length=0) (h2:ws.length=([]:List Str).length) (name qual:Str) (doc pm:Value) (an:Option Addr) (cda ct:Value) (cc:Addr):bindArgs (PySem.W.ksFn name qual (defArgs aaM) (defBody aaM) (defScope aaM) .none .none doc pm an cda ct cc) ⟨.ref e::us,([]:List Str).zip ws⟩=pure (((("self":Str)::([]:List Str))).zip (.ref e::(us++ws))):=
  match us,ws,h1,h2 with
  | [],[],_,_=>rfl
theorem aeB (e:Addr) (us ws:List Value) (h1:us.length=0) (h2:ws.length=([]:List Str).length) (name qual:Str) (doc pm:Value) (an:Option Addr) (cda ct:Value) (cc:Addr):bindArgs (PySem.W.ksFn name qual (defArgs aaI) (defBody aaI) (defScope aaI) .none .none doc pm an cda ct cc) ⟨.ref e::us,([]:List Str).zip ws⟩=pure (((("self":Str)::([]:List Str))).zip (.ref e::(us++ws))):=
  match us,ws,h1,h2 with
  | [],[],_,_=>rfl
theorem adu (e:Addr) (us ws:List Value) (h1:us.length=0) (h2:ws.length=([]:List Str).length) (name qual:Str) (doc pm:Value) (an:Option Addr) (cda ct:Value) (cc:Addr):bindArgs (PySem.W.ksFn name qual (defArgs aai) (defBody aai) (defScope aai) .none .none doc pm an cda ct cc) ⟨.ref e::us,([]:List Str).zip ws⟩=pure (((("self":Str)::([]:List Str))).zip (.ref e::(us++ws))):=
  match us,ws,h1,h2 with
  | [],[],_,_=>rfl
theorem adf (e:Addr) (us ws:List Value) (h1:us.length=0) (h2:ws.length=([]:List Str).length) (name qual:Str) (doc pm:Value) (an:Option Addr) (cda ct:Value) (cc:Addr):bindArgs (PySem.W.ksFn name qual (defArgs aae) (defBody aae) (defScope aae) .none .none doc pm an cda ct cc) ⟨.ref e::us,([]:List Str).zip ws⟩=pure (((("self":Str)::([]:List Str))).zip (.ref e::(us++ws))):=
  match us,ws,h1,h2 with
  | [],[],_,_=>rfl
theorem acL (e:Addr) (us ws:List Value) (h1:us.length=0) (h2:ws.length=(["at"]:List Str).length) (name qual:Str) (doc pm:Value) (an:Option Addr) (cda ct:Value) (cc:Addr):bindArgs (PySem.W.ksFn name qual (defArgs aaz) (defBody aaz) (defScope aaz) .none .none doc pm an cda ct cc) ⟨.ref e::us,(["at"]:List Str).zip ws⟩=pure (((("self":Str)::(["at"]:List Str))).zip (.ref e::(us++ws))):=
  match us,ws,h1,h2 with
  | [],[v0],_,_=>rfl
theorem acb (e:Addr) (us ws:List Value) (h1:us.length=0) (h2:ws.length=(["word"]:List Str).length) (name qual:Str) (doc pm:Value) (an:Option Addr) (cda ct:Value) (cc:Addr):bindArgs (PySem.W.ksFn name qual (defArgs aau) (defBody aau) (defScope aau) .none .none doc pm an cda ct cc) ⟨.ref e::us,(["word"]:List Str).zip ws⟩=pure (((("self":Str)::(["word"]:List Str))).zip (.ref e::(us++ws))):=
  match us,ws,h1,h2 with
  | [],[v0],_,_=>rfl
theorem adU (e:Addr) (us ws:List Value) (h1:us.length=1) (h2:ws.length=([]:List Str).length) (name qual:Str) (doc pm:Value) (an:Option Addr) (cda ct:Value) (cc:Addr):bindArgs (PySem.W.ksFn name qual (defArgs aaC) (defBody aaC) (defScope aaC) .none .none doc pm an cda ct cc) ⟨.ref e::us,([]:List Str).zip ws⟩=pure (((("self":Str)::(["path"]:List Str))).zip (.ref e::(us++ws))):=
  match us,ws,h1,h2 with
  | [u0],[],_,_=>rfl
theorem acd (e:Addr) (us ws:List Value) (h1:us.length=0) (h2:ws.length=(["path"]:List Str).length) (name qual:Str) (doc pm:Value) (an:Option Addr) (cda ct:Value) (cc:Addr):bindArgs (PySem.W.ksFn name qual (defArgs aav) (defBody aav) (defScope aav) .none .none doc pm an cda ct cc) ⟨.ref e::us,(["path"]:List Str).zip ws⟩=pure (((("self":Str)::(["path"]:List Str))).zip (.ref e::(us++ws))):=
  match us,ws,h1,h2 with
  | [],[v0],_,_=>rfl
theorem adI (e:Addr) (us ws:List Value) (h1:us.length=1) (h2:ws.length=([]:List Str).length) (name qual:Str) (doc pm:Value) (an:Option Addr) (cda ct:Value) (cc:Addr):bindArgs (PySem.W.ksFn name qual (defArgs aay) (defBody aay) (defScope aay) .none .none doc pm an cda ct cc) ⟨.ref e::us,([]:List Str).zip ws⟩=pure (((("self":Str)::(["given"]:List Str))).zip (.ref e::(us++ws))):=
  match us,ws,h1,h2 with
  | [u0],[],_,_=>rfl
theorem abO (e:Addr) (us ws:List Value) (h1:us.length=0) (h2:ws.length=(["given"]:List Str).length) (name qual:Str) (doc pm:Value) (an:Option Addr) (cda ct:Value) (cc:Addr):bindArgs (PySem.W.ksFn name qual (defArgs aal) (defBody aal) (defScope aal) .none .none doc pm an cda ct cc) ⟨.ref e::us,(["given"]:List Str).zip ws⟩=pure (((("self":Str)::(["given"]:List Str))).zip (.ref e::(us++ws))):=
  match us,ws,h1,h2 with
  | [],[v0],_,_=>rfl
theorem adx (e:Addr) (us ws:List Value) (h1:us.length=1) (h2:ws.length=([]:List Str).length) (name qual:Str) (doc pm:Value) (an:Option Addr) (cda ct:Value) (cc:Addr):bindArgs (PySem.W.ksFn name qual (defArgs aam) (defBody aam) (defScope aam) .none .none doc pm an cda ct cc) ⟨.ref e::us,([]:List Str).zip ws⟩=pure (((("self":Str)::(["given"]:List Str))).zip (.ref e::(us++ws))):=
  match us,ws,h1,h2 with
  | [u0],[],_,_=>rfl
theorem acB (e:Addr) (us ws:List Value) (h1:us.length=2) (h2:ws.length=(["goal"]:List Str).length) (name qual:Str) (doc pm:Value) (an:Option Addr) (cda ct:Value) (cc:Addr):bindArgs (PySem.W.ksFn name qual (defArgs aaD) (defBody aaD) (defScope aaD) .none .none doc pm an cda ct cc) ⟨.ref e::us,(["goal"]:List Str).zip ws⟩=pure (((("self":Str)::(["layer","start","goal"]:List Str))).zip (.ref e::(us++ws))):=
  match us,ws,h1,h2 with
  | [u0,u1],[v0],_,_=>rfl
theorem abN (e:Addr) (us ws:List Value) (h1:us.length=0) (h2:ws.length=(["layer"]:List Str).length) (name qual:Str) (doc pm:Value) (an:Option Addr) (cda ct:Value) (cc:Addr):bindArgs (PySem.W.ksFn name qual (defArgs aaj) (defBody aaj) (defScope aaj) .none .none doc pm an cda ct cc) ⟨.ref e::us,(["layer"]:List Str).zip ws⟩=pure (((("self":Str)::(["layer"]:List Str))).zip (.ref e::(us++ws))):=
  match us,ws,h1,h2 with
  | [],[v0],_,_=>rfl
theorem adz (e:Addr) (us ws:List Value) (h1:us.length=1) (h2:ws.length=([]:List Str).length) (name qual:Str) (doc pm:Value) (an:Option Addr) (cda ct:Value) (cc:Addr):bindArgs (PySem.W.ksFn name qual (defArgs aao) (defBody aao) (defScope aao) .none .none doc pm an cda ct cc) ⟨.ref e::us,([]:List Str).zip ws⟩=pure (((("self":Str)::(["given"]:List Str))).zip (.ref e::(us++ws))):=
  match us,ws,h1,h2 with
  | [u0],[],_,_=>rfl
theorem adV (e:Addr) (us ws:List Value) (h1:us.length=1) (h2:ws.length=([]:List Str).length) (name qual:Str) (doc pm:Value) (an:Option Addr) (cda ct:Value) (cc:Addr):bindArgs (PySem.W.ksFn name qual (defArgs aaE) (defBody aaE) (defScope aaE) .none .none doc pm an cda ct cc) ⟨.ref e::us,([]:List Str).zip ws⟩=pure (((("self":Str)::(["at"]:List Str))).zip (.ref e::(us++ws))):=
  match us,ws,h1,h2 with
  | [u0],[],_,_=>rfl
theorem abP (e:Addr) (us ws:List Value) (h1:us.length=0) (h2:ws.length=(["name"]:List Str).length) (name qual:Str) (doc pm:Value) (an:Option Addr) (cda ct:Value) (cc:Addr):bindArgs (PySem.W.ksFn name qual (defArgs aah) (defBody aah) (defScope aah) .none .none doc pm an cda ct cc) ⟨.ref e::us,(["name"]:List Str).zip ws⟩=pure (((("self":Str)::(["name"]:List Str))).zip (.ref e::(us++ws))):=
  match us,ws,h1,h2 with
  | [],[v0],_,_=>rfl
theorem adH (e:Addr) (us ws:List Value) (h1:us.length=1) (h2:ws.length=([]:List Str).length) (name qual:Str) (doc pm:Value) (an:Option Addr) (cda ct:Value) (cc:Addr):bindArgs (PySem.W.ksFn name qual (defArgs aax) (defBody aax) (defScope aax) .none .none doc pm an cda ct cc) ⟨.ref e::us,([]:List Str).zip ws⟩=pure (((("self":Str)::(["given"]:List Str))).zip (.ref e::(us++ws))):=
  match us,ws,h1,h2 with
  | [u0],[],_,_=>rfl
theorem abI (e:Addr) (us ws:List Value) (h1:us.length=0) (h2:ws.length=(["given"]:List Str).length) (name qual:Str) (doc pm:Value) (an:Option Addr) (cda ct:Value) (cc:Addr):bindArgs (PySem.W.ksFn name qual (defArgs aag) (defBody aag) (defScope aag) .none .none doc pm an cda ct cc) ⟨.ref e::us,(["given"]:List Str).zip ws⟩=pure (((("self":Str)::(["given"]:List Str))).zip (.ref e::(us++ws))):=
  match us,ws,h1,h2 with
  | [],[v0],_,_=>rfl
theorem adw (e:Addr) (us ws:List Value) (h1:us.length=1) (h2:ws.length=([]:List Str).length) (name qual:Str) (doc pm:Value) (an:Option Addr) (cda ct:Value) (cc:Addr):bindArgs (PySem.W.ksFn name qual (defArgs aak) (defBody aak) (defScope aak) .none .none doc pm an cda ct cc) ⟨.ref e::us,([]:List Str).zip ws⟩=pure (((("self":Str)::(["given"]:List Str))).zip (.ref e::(us++ws))):=
  match us,ws,h1,h2 with
  | [u0],[],_,_=>rfl
theorem facts {w:World} {K:PySem.W.Frag} {h:Heap} {mg:Str->Option Value} {f:Addr} (X:K.In h) (G:h.Ns mainGlobals mg) (hfa:mg ("law":Str)=some (.ref f)) (c:SaysZ lyL faL fnL h K) :
    ∃ fd:FuncData,(∀ (s:Shared) (v:Value),BindsTo s fd ⟨[v],[]⟩ [("_law_script",v)])/\∀ base:Heap,K.In base->base.Ns mainGlobals mg->(∀ q∈lamFns K,LamX.TabB base mg q.1 q.2.1)->FnR PySem.Challenge.rw_missingmiles_k01_errors_by_themselves.prog w K mg base 20 f fd ["_law_script"] (spLaw K):=by
  obtain ⟨fd0,F0⟩:=c.s.def_ 0 (d:=df0) rfl
  obtain ⟨fd1,F1⟩:=c.s.def_ 1 (d:=df1) rfl
  obtain ⟨fd2,F2⟩:=c.s.def_ 2 (d:=df2) rfl
  obtain ⟨fd3,F3⟩:=c.s.def_ 3 (d:=df3) rfl
  obtain ⟨fd4,F4⟩:=c.s.def_ 4 (d:=df4) rfl
  obtain ⟨fd5,F5⟩:=c.s.def_ 5 (d:=df5) rfl
  obtain ⟨fd6,F6⟩:=c.s.def_ 6 (d:=df6) rfl
  obtain ⟨fd7,F7⟩:=c.s.def_ 7 (d:=df7) rfl
  have e:=hfa.symm.trans (He.glo_ok X G (c.s.fact 7 (f:=.glo "law") rfl))
  cases e
  have su:=He.free_ok X G (c.s.fact 46 (f:=.free "super") rfl)
  have X0:=c.x acp (List.mem_of_getElem? (i:=0) rfl)
  have X1:=c.x ab1 (List.mem_of_getElem? (i:=1) rfl)
  have X2:=c.x ac3 (List.mem_of_getElem? (i:=2) rfl)
  have X3:=c.x ab2 (List.mem_of_getElem? (i:=3) rfl)
  have X4:=c.x adq (List.mem_of_getElem? (i:=4) rfl)
  have X5:=c.x act (List.mem_of_getElem? (i:=5) rfl)
  have X6:=c.x aco (List.mem_of_getElem? (i:=6) rfl)
  have X7:=c.x adp (List.mem_of_getElem? (i:=7) rfl)
  have X8:=c.x acr (List.mem_of_getElem? (i:=8) rfl)
  have X9:=c.x acq (List.mem_of_getElem? (i:=9) rfl)
  have X10:=c.x ac4 (List.mem_of_getElem? (i:=10) rfl)
  have X11:=c.x ac1 (List.mem_of_getElem? (i:=11) rfl)
  have X12:=c.x ado (List.mem_of_getElem? (i:=12) rfl)
  have X13:=c.x ac0 (List.mem_of_getElem? (i:=13) rfl)
  have X14:=c.x ac5 (List.mem_of_getElem? (i:=14) rfl)
  have X15:=c.x abZ (List.mem_of_getElem? (i:=15) rfl)
  have X16:=c.x acn (List.mem_of_getElem? (i:=16) rfl)
  have X17:=c.x ad6 (List.mem_of_getElem? (i:=17) rfl)
  have X18:=c.x aeR (List.mem_of_getElem? (i:=18) rfl)
  have X19:=c.x abK (List.mem_of_getElem? (i:=19) rfl)
  have X20:=c.x acs (List.mem_of_getElem? (i:=20) rfl)
  have X21:=c.x af3 (List.mem_of_getElem? (i:=21) rfl)
  have X22:=c.x ac2 (List.mem_of_getElem? (i:=22) rfl)
  have X23:=c.x aeQ (List.mem_of_getElem? (i:=23) rfl)
  have X24:=c.x acY (List.mem_of_getElem? (i:=24) rfl)
  have X25:=c.x ab0 (List.mem_of_getElem? (i:=25) rfl)
  have X26:=c.x acZ (List.mem_of_getElem? (i:=26) rfl)
  have T:∀ base:Heap,(∀ q∈lamFns K,LamX.TabB base mg q.1 q.2.1)->Tx PySem.Challenge.rw_missingmiles_k01_errors_by_themselves.prog K mg base (fun i=>match i with | 0=>He.ga K "_law_source" | 1=>He.ga K "_law_draw" | 2=>He.ga K "_law_of" | 3=>He.ga K "_law_same" | 4=>He.ga K "_law_fields" | 5=>He.ga K "_law_first_classes" | 6=>He.ga K "_law_last_classes" | 7=>He.ga K "law" | _=>0) (fun i=>match i with | 0=>fd0 | 1=>fd1 | 2=>fd2 | 3=>fd3 | 4=>fd4 | 5=>fd5 | 6=>fd6 | 7=>fd7 | _=>fd0):=fun base tb=>
    { tb:=tb
      F__law_source:=F0
      m__law_source:=He.glo_ok X G (c.s.fact 0 (f:=.glo "_law_source") rfl)
      F__law_draw:=F1
      m__law_draw:=He.glo_ok X G (c.s.fact 1 (f:=.glo "_law_draw") rfl)
      F__law_of:=F2
      m__law_of:=He.glo_ok X G (c.s.fact 2 (f:=.glo "_law_of") rfl)
      F__law_same:=F3
      m__law_same:=He.glo_ok X G (c.s.fact 3 (f:=.glo "_law_same") rfl)
      F__law_fields:=F4
      m__law_fields:=He.glo_ok X G (c.s.fact 4 (f:=.glo "_law_fields") rfl)
      F__law_first_classes:=F5
      m__law_first_classes:=He.glo_ok X G (c.s.fact 5 (f:=.glo "_law_first_classes") rfl)
      F__law_last_classes:=F6
      m__law_last_classes:=He.glo_ok X G (c.s.fact 6 (f:=.glo "_law_last_classes") rfl)
      F_law:=F7
      xt:=abe c.toSaysY.toSaysX (i:=0) rfl
      x_InvalidRatio:=X0.cls aci (by decide +kernel) (by decide +kernel) aeh (by intro f hf;simp at hf;rcases hf with rfl | rfl<;>decide) (fun vs z=>by cases z) su (by decide)
      xk_InvalidRatio_1:=X0.clsN aci (by decide +kernel) (by decide +kernel) adw (by intro f hf;simp at hf;rcases hf with rfl | rfl<;>decide) (fun vs z=>by cases z) su (by decide) (by decide) (abh (abe c.toSaysY.toSaysX (i:=0) rfl) (by decide))
      x_InvalidNumber:=X1.cls abX (by decide +kernel) (by decide +kernel) adZ (by intro f hf;simp at hf;rcases hf with rfl | rfl<;>decide) (fun vs z=>by cases z) su (by decide)
      xk_InvalidNumber_0_given:=X1.clsN abX (by decide +kernel) (by decide +kernel) abI (by intro f hf;simp at hf;rcases hf with rfl | rfl<;>decide) (fun vs z=>by cases z) su (by decide) (by decide) (abh (abe c.toSaysY.toSaysX (i:=0) rfl) (by decide))
      x_InvalidName:=X2.cls acV (by decide +kernel) (by decide +kernel) aeH (by intro f hf;simp at hf;rcases hf with rfl | rfl<;>decide) (fun vs z=>by cases z) su (by decide)
      xk_InvalidName_1:=X2.clsN acV (by decide +kernel) (by decide +kernel) adH (by intro f hf;simp at hf;rcases hf with rfl | rfl<;>decide) (fun vs z=>by cases z) su (by decide) (by decide) (abh (abe c.toSaysY.toSaysX (i:=0) rfl) (by decide))
      x_DuplicateName:=X3.cls abY (by decide +kernel) (by decide +kernel) ad0 (by intro f hf;simp at hf;rcases hf with rfl | rfl<;>decide) (fun vs z=>by cases z) su (by decide)
      xk_DuplicateName_0_name:=X3.clsN abY (by decide +kernel) (by decide +kernel) abP (by intro f hf;simp at hf;rcases hf with rfl | rfl<;>decide) (fun vs z=>by cases z) su (by decide) (by decide) (abh (abe c.toSaysY.toSaysX (i:=0) rfl) (by decide))
      x_InvalidRow:=X4.cls adn (by decide +kernel) (by decide +kernel) ae6 (by intro f hf;simp at hf;rcases hf with rfl | rfl<;>decide) (fun vs z=>by cases z) su (by decide)
      xk_InvalidRow_1:=X4.clsN adn (by decide +kernel) (by decide +kernel) adV (by intro f hf;simp at hf;rcases hf with rfl | rfl<;>decide) (fun vs z=>by cases z) su (by decide) (by decide) (abh (abe c.toSaysY.toSaysX (i:=0) rfl) (by decide))
      x_InvalidLayer:=X5.cls acm (by decide +kernel) (by decide +kernel) ael (by intro f hf;simp at hf;rcases hf with rfl | rfl<;>decide) (fun vs z=>by cases z) su (by decide)
      xk_InvalidLayer_1:=X5.clsN acm (by decide +kernel) (by decide +kernel) adz (by intro f hf;simp at hf;rcases hf with rfl | rfl<;>decide) (fun vs z=>by cases z) su (by decide) (by decide) (abh (abe c.toSaysY.toSaysX (i:=0) rfl) (by decide))
      x_InvalidTable:=X6.cls ach (by decide +kernel) (by decide +kernel) aeg (by intro f hf;simp at hf;rcases hf with rfl | rfl<;>decide) (fun vs z=>by cases z) su (by decide)
      xk_InvalidTable_0_layer:=X6.clsN ach (by decide +kernel) (by decide +kernel) abN (by intro f hf;simp at hf;rcases hf with rfl | rfl<;>decide) (fun vs z=>by cases z) su (by decide) (by decide) (abh (abe c.toSaysY.toSaysX (i:=0) rfl) (by decide))
      x_InvalidWay:=X7.cls adm (by decide +kernel) (by decide +kernel) ae5 (by intro f hf;simp at hf;rcases hf with rfl | rfl | rfl | rfl<;>decide) (fun vs z=>by cases z) su (by decide)
      xk_InvalidWay_2_goal:=X7.clsN adm (by decide +kernel) (by decide +kernel) acB (by intro f hf;simp at hf;rcases hf with rfl | rfl | rfl | rfl<;>decide) (fun vs z=>by cases z) su (by decide) (by decide) (abh (abe c.toSaysY.toSaysX (i:=0) rfl) (by decide))
      x_InvalidPlace:=X8.cls ack (by decide +kernel) (by decide +kernel) aej (by intro f hf;simp at hf;rcases hf with rfl | rfl<;>decide) (fun vs z=>by cases z) su (by decide)
      xk_InvalidPlace_1:=X8.clsN ack (by decide +kernel) (by decide +kernel) adx (by intro f hf;simp at hf;rcases hf with rfl | rfl<;>decide) (fun vs z=>by cases z) su (by decide) (by decide) (abh (abe c.toSaysY.toSaysX (i:=0) rfl) (by decide))
      x_InvalidPoint:=X9.cls acj (by decide +kernel) (by decide +kernel) aei (by intro f hf;simp at hf;rcases hf with rfl | rfl<;>decide) (fun vs z=>by cases z) su (by decide)
      xk_InvalidPoint_0_given:=X9.clsN acj (by decide +kernel) (by decide +kernel) abO (by intro f hf;simp at hf;rcases hf with rfl | rfl<;>decide) (fun vs z=>by cases z) su (by decide) (by decide) (abh (abe c.toSaysY.toSaysX (i:=0) rfl) (by decide))
      x_InvalidForm:=X10.cls acW (by decide +kernel) (by decide +kernel) aeI (by intro f hf;simp at hf;rcases hf with rfl | rfl<;>decide) (fun vs z=>by cases z) su (by decide)
      xk_InvalidForm_1:=X10.clsN acW (by decide +kernel) (by decide +kernel) adI (by intro f hf;simp at hf;rcases hf with rfl | rfl<;>decide) (fun vs z=>by cases z) su (by decide) (by decide) (abh (abe c.toSaysY.toSaysX (i:=0) rfl) (by decide))
      x_InvalidStep:=X11.cls acT (by decide +kernel) (by decide +kernel) aeF (by intro f hf;simp at hf;rcases hf with rfl | rfl<;>decide) (fun vs z=>by cases z) su (by decide)
      xk_InvalidStep_0_path:=X11.clsN acT (by decide +kernel) (by decide +kernel) acd (by intro f hf;simp at hf;rcases hf with rfl | rfl<;>decide) (fun vs z=>by cases z) su (by decide) (by decide) (abh (abe c.toSaysY.toSaysX (i:=0) rfl) (by decide))
      x_UnlikeEnds:=X12.cls adl (by decide +kernel) (by decide +kernel) ae4 (by intro f hf;simp at hf;rcases hf with rfl | rfl<;>decide) (fun vs z=>by cases z) su (by decide)
      xk_UnlikeEnds_1:=X12.clsN adl (by decide +kernel) (by decide +kernel) adU (by intro f hf;simp at hf;rcases hf with rfl | rfl<;>decide) (fun vs z=>by cases z) su (by decide) (by decide) (abh (abe c.toSaysY.toSaysX (i:=0) rfl) (by decide))
      x_InvalidText:=X13.cls acS (by decide +kernel) (by decide +kernel) aeE (by intro f hf;simp at hf;rcases hf with rfl | rfl<;>decide) (fun vs z=>by cases z) su (by decide)
      xk_InvalidText_0_word:=X13.clsN acS (by decide +kernel) (by decide +kernel) acb (by intro f hf;simp at hf;rcases hf with rfl | rfl<;>decide) (fun vs z=>by cases z) su (by decide) (by decide) (abh (abe c.toSaysY.toSaysX (i:=0) rfl) (by decide))
      x_InvalidFact:=X14.cls acX (by decide +kernel) (by decide +kernel) aeJ (by intro f hf;simp at hf;rcases hf with rfl | rfl<;>decide) (fun vs z=>by cases z) su (by decide)
      xk_InvalidFact_0_at:=X14.clsN acX (by decide +kernel) (by decide +kernel) acL (by intro f hf;simp at hf;rcases hf with rfl | rfl<;>decide) (fun vs z=>by cases z) su (by decide) (by decide) (abh (abe c.toSaysY.toSaysX (i:=0) rfl) (by decide))
      x_UnlikeScripts:=X15.cls abV (by decide +kernel) (by decide +kernel) adX (by intro f hf;simp at hf;rcases hf with rfl<;>decide) (fun vs z=>by cases z) su (by decide)
      xk_UnlikeScripts_0:=X15.clsN abV (by decide +kernel) (by decide +kernel) adf (by intro f hf;simp at hf;rcases hf with rfl<;>decide) (fun vs z=>by cases z) su (by decide) (by decide) (abh (abe c.toSaysY.toSaysX (i:=0) rfl) (by decide))
      x_UnlikeWorlds:=X16.cls acg (by decide +kernel) (by decide +kernel) aef (by intro f hf;simp at hf;rcases hf with rfl<;>decide) (fun vs z=>by cases z) su (by decide)
      xk_UnlikeWorlds_0:=X16.clsN acg (by decide +kernel) (by decide +kernel) adu (by intro f hf;simp at hf;rcases hf with rfl<;>decide) (fun vs z=>by cases z) su (by decide) (by decide) (abh (abe c.toSaysY.toSaysX (i:=0) rfl) (by decide))
      x_HasTests:=X17.cls ad5 (by decide +kernel) (by decide +kernel) afu (by intro f hf;simp at hf;rcases hf with rfl<;>decide) (fun vs z=>by cases z) su (by decide)
      xk_HasTests_0:=X17.clsN ad5 (by decide +kernel) (by decide +kernel) aeB (by intro f hf;simp at hf;rcases hf with rfl<;>decide) (fun vs z=>by cases z) su (by decide) (by decide) (abh (abe c.toSaysY.toSaysX (i:=0) rfl) (by decide))
      x_NoWorld:=X18.cls aeP (by decide +kernel) (by decide +kernel) afV (by intro f hf;simp at hf;rcases hf with rfl<;>decide) (fun vs z=>by cases z) su (by decide)
      xk_NoWorld_0:=X18.clsN aeP (by decide +kernel) (by decide +kernel) ae3 (by intro f hf;simp at hf;rcases hf with rfl<;>decide) (fun vs z=>by cases z) su (by decide) (by decide) (abh (abe c.toSaysY.toSaysX (i:=0) rfl) (by decide))
      x_InvalidCommand:=X19.cls abJ (by decide +kernel) (by decide +kernel) adJ (by intro f hf;simp at hf;rcases hf with rfl | rfl<;>decide) (fun vs z=>by cases z) su (by decide)
      xk_InvalidCommand_1:=X19.clsN abJ (by decide +kernel) (by decide +kernel) acM (by intro f hf;simp at hf;rcases hf with rfl | rfl<;>decide) (fun vs z=>by cases z) su (by decide) (by decide) (abh (abe c.toSaysY.toSaysX (i:=0) rfl) (by decide))
      x_InvalidLimit:=X20.cls acl (by decide +kernel) (by decide +kernel) aek (by intro f hf;simp at hf;rcases hf with rfl | rfl<;>decide) (fun vs z=>by cases z) su (by decide)
      xk_InvalidLimit_1:=X20.clsN acl (by decide +kernel) (by decide +kernel) ady (by intro f hf;simp at hf;rcases hf with rfl | rfl<;>decide) (fun vs z=>by cases z) su (by decide) (by decide) (abh (abe c.toSaysY.toSaysX (i:=0) rfl) (by decide))
      x_Full:=X21.cls af2 (by decide +kernel) (by decide +kernel) ahF (by intro f hf;simp at hf;rcases hf with rfl | rfl<;>decide) (fun vs z=>by cases z) su (by decide)
      xk_Full_0_limit:=X21.clsN af2 (by decide +kernel) (by decide +kernel) adW (by intro f hf;simp at hf;rcases hf with rfl | rfl<;>decide) (fun vs z=>by cases z) su (by decide) (by decide) (abh (abe c.toSaysY.toSaysX (i:=0) rfl) (by decide))
      x_InvalidPage:=X22.cls acU (by decide +kernel) (by decide +kernel) aeG (by intro f hf;simp at hf;rcases hf with rfl | rfl<;>decide) (fun vs z=>by cases z) su (by decide)
      xk_InvalidPage_0_line:=X22.clsN acU (by decide +kernel) (by decide +kernel) ace (by intro f hf;simp at hf;rcases hf with rfl | rfl<;>decide) (fun vs z=>by cases z) su (by decide) (by decide) (abh (abe c.toSaysY.toSaysX (i:=0) rfl) (by decide))
      x_TooMany:=X23.cls aeO (by decide +kernel) (by decide +kernel) afU (by intro f hf;simp at hf;rcases hf with rfl | rfl | rfl<;>decide) (fun vs z=>by cases z) su (by decide)
      xk_TooMany_1_most:=X23.clsN aeO (by decide +kernel) (by decide +kernel) adv (by intro f hf;simp at hf;rcases hf with rfl | rfl | rfl<;>decide) (fun vs z=>by cases z) su (by decide) (by decide) (abh (abe c.toSaysY.toSaysX (i:=0) rfl) (by decide))
      x_UnknownName:=X24.cls acQ (by decide +kernel) (by decide +kernel) aeC (by intro f hf;simp at hf;rcases hf with rfl | rfl<;>decide) (fun vs z=>by cases z) su (by decide)
      xk_UnknownName_1:=X24.clsN acQ (by decide +kernel) (by decide +kernel) adF (by intro f hf;simp at hf;rcases hf with rfl | rfl<;>decide) (fun vs z=>by cases z) su (by decide) (by decide) (abh (abe c.toSaysY.toSaysX (i:=0) rfl) (by decide))
      x_UnknownScript:=X25.cls abW (by decide +kernel) (by decide +kernel) adY (by intro f hf;simp at hf;rcases hf with rfl | rfl<;>decide) (fun vs z=>by cases z) su (by decide)
      xk_UnknownScript_0_word:=X25.clsN abW (by decide +kernel) (by decide +kernel) abM (by intro f hf;simp at hf;rcases hf with rfl | rfl<;>decide) (fun vs z=>by cases z) su (by decide) (by decide) (abh (abe c.toSaysY.toSaysX (i:=0) rfl) (by decide))
      x_NothingLeft:=X26.cls acR (by decide +kernel) (by decide +kernel) aeD (by intro f hf;simp at hf;rcases hf with rfl<;>decide) (fun vs z=>by cases z) su (by decide)
      xk_NothingLeft_0:=X26.clsN acR (by decide +kernel) (by decide +kernel) adG (by intro f hf;simp at hf;rcases hf with rfl<;>decide) (fun vs z=>by cases z) su (by decide) (by decide) (abh (abe c.toSaysY.toSaysX (i:=0) rfl) (by decide))
      m_InvalidRatio:=He.glo_ok X G (c.s.fact 8 (f:=.glo "InvalidRatio") rfl)
      m_InvalidNumber:=He.glo_ok X G (c.s.fact 9 (f:=.glo "InvalidNumber") rfl)
      m_InvalidName:=He.glo_ok X G (c.s.fact 10 (f:=.glo "InvalidName") rfl)
      m_DuplicateName:=He.glo_ok X G (c.s.fact 11 (f:=.glo "DuplicateName") rfl)
      m_InvalidRow:=He.glo_ok X G (c.s.fact 12 (f:=.glo "InvalidRow") rfl)
      m_InvalidLayer:=He.glo_ok X G (c.s.fact 13 (f:=.glo "InvalidLayer") rfl)
      m_InvalidTable:=He.glo_ok X G (c.s.fact 14 (f:=.glo "InvalidTable") rfl)
      m_InvalidWay:=He.glo_ok X G (c.s.fact 15 (f:=.glo "InvalidWay") rfl)
      m_InvalidPlace:=He.glo_ok X G (c.s.fact 16 (f:=.glo "InvalidPlace") rfl)
      m_InvalidPoint:=He.glo_ok X G (c.s.fact 17 (f:=.glo "InvalidPoint") rfl)
      m_InvalidForm:=He.glo_ok X G (c.s.fact 18 (f:=.glo "InvalidForm") rfl)
      m_InvalidStep:=He.glo_ok X G (c.s.fact 19 (f:=.glo "InvalidStep") rfl)
      m_UnlikeEnds:=He.glo_ok X G (c.s.fact 20 (f:=.glo "UnlikeEnds") rfl)
      m_InvalidText:=He.glo_ok X G (c.s.fact 21 (f:=.glo "InvalidText") rfl)
      m_InvalidFact:=He.glo_ok X G (c.s.fact 22 (f:=.glo "InvalidFact") rfl)
      m_UnlikeScripts:=He.glo_ok X G (c.s.fact 23 (f:=.glo "UnlikeScripts") rfl)
      m_UnlikeWorlds:=He.glo_ok X G (c.s.fact 24 (f:=.glo "UnlikeWorlds") rfl)
      m_HasTests:=He.glo_ok X G (c.s.fact 25 (f:=.glo "HasTests") rfl)
      m_NoWorld:=He.glo_ok X G (c.s.fact 26 (f:=.glo "NoWorld") rfl)
      m_InvalidCommand:=He.glo_ok X G (c.s.fact 27 (f:=.glo "InvalidCommand") rfl)
      m_InvalidLimit:=He.glo_ok X G (c.s.fact 28 (f:=.glo "InvalidLimit") rfl)
      m_Full:=He.glo_ok X G (c.s.fact 29 (f:=.glo "Full") rfl)
      m_InvalidPage:=He.glo_ok X G (c.s.fact 30 (f:=.glo "InvalidPage") rfl)
      m_TooMany:=He.glo_ok X G (c.s.fact 31 (f:=.glo "TooMany") rfl)
      m_UnknownName:=He.glo_ok X G (c.s.fact 32 (f:=.glo "UnknownName") rfl)
      m_UnknownScript:=He.glo_ok X G (c.s.fact 33 (f:=.glo "UnknownScript") rfl)
      m_NothingLeft:=He.glo_ok X G (c.s.fact 34 (f:=.glo "NothingLeft") rfl)
      m_MilesError:=He.glo_ok X G (c.s.fact 35 (f:=.glo "MilesError") rfl)
      m_Missing:=He.glo_ok X G (c.s.fact 36 (f:=.glo "Missing") rfl)
      n_IndexError:=He.free_ok X G (c.s.fact 37 (f:=.free "IndexError") rfl)
      n_LookupError:=He.free_ok X G (c.s.fact 38 (f:=.free "LookupError") rfl)
      n_ValueError:=He.free_ok X G (c.s.fact 39 (f:=.free "ValueError") rfl)
      n_int:=He.free_ok X G (c.s.fact 40 (f:=.free "int") rfl)
      n_isinstance:=He.free_ok X G (c.s.fact 41 (f:=.free "isinstance") rfl)
      n_len:=He.free_ok X G (c.s.fact 42 (f:=.free "len") rfl)
      n_list:=He.free_ok X G (c.s.fact 43 (f:=.free "list") rfl)
      n_range:=He.free_ok X G (c.s.fact 44 (f:=.free "range") rfl)
      n_repr:=He.free_ok X G (c.s.fact 45 (f:=.free "repr") rfl)
      n_super:=He.free_ok X G (c.s.fact 46 (f:=.free "super") rfl) }
  exact ⟨fd7,agN F7 fun _ _ _ _ _ _ u=>rfl,fun base _ _ tb=>aii (T base tb)⟩
end
end K01
open PySem PySem.W PySem.Calls PyProof.Rows in
set_option maxRecDepth 100000 in
set_option maxHeartbeats 0 in
theorem PySem.Challenge.cw_missingmiles_k01_errors_by_themselves_holds : PySem.Challenge.rw_missingmiles_k01_errors_by_themselves.Holds := by
  w_on;o_law
  refine HandSHeadRun.head_any (r:=OpenLaw.row PySem.Challenge.rw_missingmiles_k01_errors_by_themselves) (q:=K01.qv) (H:=K01.hk) (ob:=K01.ob) (M:=9000) (loose:=K01.names) (d:=HandSHeadRun.topDef (OpenLaw.row PySem.Challenge.rw_missingmiles_k01_errors_by_themselves).prog 38) (kwd:=[]) K01.ob_eq
    (by kernel_rfl) (fun s=>by kernel_rfl) K01.run (by kernel_rfl) (by kernel_rfl) (by kernel_rfl) (by rfl) (by first | assumption | decide +kernel) (by decide +kernel) ⟨rfl,rfl,rfl,rfl,rfl,by decide +kernel⟩ ?hw ?hc
  case hw=>w_witness2
  case hc=>
    refine DL.agO (l:=PySem.Challenge.rw_missingmiles_k01_errors_by_themselves) (n:=63) (k:=20) (x:="_law_script") rfl (by decide) (by kernel_rfl) ⟨rfl,by decide,by decide⟩ ?F
    intro w mg fa h Y G hmg0
    obtain ⟨K,KX,c⟩:=Y
    have hmg:mg ("law":PySem.Str)=some (.ref fa):=by
      have e:(HandSHeadRun.topDef (OpenLaw.row PySem.Challenge.rw_missingmiles_k01_errors_by_themselves).prog 38).name=("law":PySem.Str):=by kernel_rfl
      rw [<- e]
      exact hmg0
    obtain ⟨fd,hb,hF⟩:=K01.facts (w:=w) KX G hmg c
    exact ⟨K,fd,DL.spLaw K,KX,hb,c.te,c.tn,c.tc,fun H a ns hl hT hS=>⟨a,ns,rfl,hS,hl,hT,c.tu,fun _=>rfl⟩,hF⟩
