import PyProof.Rows.All
import Wide.All
import OpenK.AllK
import Wide.FinOn
import HandS.ForMost
import HandS.Exc
import HandS.TryOnly
import HandS.ExcOwn
import HandS.WordsExc
import HandS.CallSlots
import HandS.Walk
import HandS.Wide
import HandS.Gcd
import HandS.IsInst
import HandS.Defaults
import HandS.Lambda
import HandS.EndTab
import HandS.ExcCtx
import HandS.HotCalls
import HandS.ExcField
import KE.KExcSuper
import KE.KTryMore
import HandS.HeadHook4
import HandS.TupAny
import HandS.Deep
import HandS.RaiseMore
import HandS.Flow
import HandS.Zip
import KE.KStateDown
import HandS.Head0
import HandS.Head1
import HandS.Head2
import HandS.Head3
import HandS.HeadEnd
import HandS.HeadHook1
import HandS.HeadHook2
import HandS.MakeKwOnly
import HandS.Style
import HandS.TupLe
import KE.GoesZip
import KE.GoesMore
import HandS.ExcValue
import HandS.ExcInit
import KE.KDflt
import HandS.Star
import HandS.FStr
import HandS.Property
import HandS.ClsMeth
import HandS.Small
import PyProof.MeetsIn
import HandS.Strs
import HandS.More
import HandS.Conv
import PyProof.ListStr
import HandS.Text
import HandS.StrMore
import PyProof.StrBlock2
import KE.SortData
import HandS.SortInts
import PySem.Challenge.RW_missingmiles_k03_sums_and_products_of_ra
set_option Elab.async false
set_option linter.all false
set_option maxRecDepth 100000
set_option autoImplicit false
set_option maxHeartbeats 2000000
/-! DL: readings over data trees. A value is a tree (D), the law's source of draws, or a list that nobody else holds. -/
namespace DL
open PySem PySem.Spec PyProof.Rows L2

/-! ### data -/
inductive D where
  | non | bl (b : Bool) | int (i : Int) | str (x : Str)
  | lst (ds : List D) | tup (ds : List D)
  | ins (C : Addr) (fs : List (Str × D))
  | dk (kvs : List (Key × D)) | dt (kvs : List (List Key × D))
  | any
  | raw (v : V)

abbrev Ex (H H' : Hp) : Prop := ∀ a o, H a = some o → H' a = some o
theorem Ex.refl (H : Hp) : Ex H H := fun _ _ h => h
theorem Ex.trans {H H1 H2 : Hp} (a : Ex H H1) (b : Ex H1 H2) : Ex H H2 := fun x o h => b x o (a x o h)
theorem Ex.new {H : Hp} {p : Addr} {o : HO} (h : H p = none) : Ex H (upd H p o) := fun a u e => by
  rw [upd_ne (ne_of_none e h)]; exact e
theorem Ex.up {G H : Hp} {p : Addr} {o : HO} (e : Ex G H) : Ex (upd G p o) (upd H p o) := fun a u h => by
  by_cases q : a = p
  · subst q; rw [upd_same] at h ⊢; exact h
  · rw [upd_ne q] at h ⊢; exact e a u h
theorem Ex.free {G H : Hp} (e : Ex G H) {a : Addr} (h : H a = none) : G a = none := by
  cases q : G a with
  | none => rfl
  | some o => rw [e a o q] at h; cases h
theorem ex_rd {H H' : Hp} {a : Addr} {u : HO} (e : Ex H H') (h : Rd H a u) : Rd H' a u := by
  rcases h with h | ⟨o, h⟩
  · exact Or.inl (e a _ h)
  · exact Or.inr ⟨o, e a _ h⟩
theorem ex_l {K : PySem.W.Frag} {H H' : Hp} {a : Addr} {xs : List V} (e : Ex H H') (h : SqL K H a xs) : SqL K H' a xs := by
  rcases h with h | h
  · exact Or.inl (ex_rd e h)
  · exact Or.inr h
theorem ex_t {K : PySem.W.Frag} {H H' : Hp} {a : Addr} {xs : List V} (e : Ex H H') (h : SqT K H a xs) : SqT K H' a xs := by
  rcases h with h | h
  · exact Or.inl (ex_rd e h)
  · exact Or.inr h

mutual
/-- the value v is the tree d, all of its objects standing in G -/
inductive DOk (K : PySem.W.Frag) (G : Hp) : V → D → Prop
  | non : DOk K G .non .non
  | bl (b : Bool) : DOk K G (.bl b) (.bl b)
  | int (i : Int) : DOk K G (.int i) (.int i)
  | str (x : Str) : DOk K G (.str x) (.str x)
  | lst {a : Addr} {vs : List V} {ds : List D} : G a = some (.lst vs) → DAll K G vs ds → DOk K G (.ref a) (.lst ds)
  | tup {a : Addr} {vs : List V} {ds : List D} : SqT K G a vs → DAll K G vs ds → DOk K G (.ref a) (.tup ds)
  | ins {a C dx : Addr} {vs : List (Str × V)} {fs : List (Str × D)} : G a = some (.ins C dx vs) → G dx = some (.own a) → FAll K G vs fs → DOk K G (.ref a) (.ins C fs)
  | any (v : V) : DOk K G v .any
  | dk {a : Addr} {o : Obj} {vs : List (Key × V)} {fs : List (Key × D)} : G a = some (.frz o (.dK vs)) → FAll K G vs fs → DOk K G (.ref a) (.dk fs)
  | dt {a : Addr} {o : Obj} {vs : List (List Key × V)} {fs : List (List Key × D)} : G a = some (.frz o (.dT vs)) → FAll K G vs fs → DOk K G (.ref a) (.dt fs)
  | raw (v : V) : DOk K G v (.raw v)
inductive DAll (K : PySem.W.Frag) (G : Hp) : List V → List D → Prop
  | nil : DAll K G [] []
  | cons {v : V} {d : D} {vs : List V} {ds : List D} : DOk K G v d → DAll K G vs ds → DAll K G (v :: vs) (d :: ds)
inductive FAll (K : PySem.W.Frag) (G : Hp) : {κ : Type} → List (κ × V) → List (κ × D) → Prop
  | nil {κ : Type} : FAll K G (κ := κ) [] []
  | cons {κ : Type} {x : κ} {v : V} {d : D} {vs : List (κ × V)} {ds : List (κ × D)} : DOk K G v d → FAll K G vs ds → FAll K G ((x, v) :: vs) ((x, d) :: ds)
end

section
variable {K : PySem.W.Frag} {G G' : Hp}
mutual
theorem DOk.mono (e : Ex G G') : ∀ {v : V} {d : D}, DOk K G v d → DOk K G' v d
  | _, _, .non => .non
  | _, _, .bl b => .bl b
  | _, _, .int i => .int i
  | _, _, .str x => .str x
  | _, _, .lst h a => .lst (e _ _ h) (DAll.mono e a)
  | _, _, .tup h a => .tup (ex_t e h) (DAll.mono e a)
  | _, _, .ins h h2 a => .ins (e _ _ h) (e _ _ h2) (FAll.mono e a)
  | _, _, .any v => .any v
  | _, _, .dk h a => .dk (e _ _ h) (FAll.mono e a)
  | _, _, .dt h a => .dt (e _ _ h) (FAll.mono e a)
  | _, _, .raw v => .raw v
theorem DAll.mono (e : Ex G G') : ∀ {vs : List V} {ds : List D}, DAll K G vs ds → DAll K G' vs ds
  | _, _, .nil => .nil
  | _, _, .cons h t => .cons (DOk.mono e h) (DAll.mono e t)
theorem FAll.mono (e : Ex G G') : ∀ {κ : Type} {vs : List (κ × V)} {ds : List (κ × D)}, FAll K G vs ds → FAll K G' vs ds
  | _, _, _, .nil => .nil
  | _, _, _, .cons h t => .cons (DOk.mono e h) (FAll.mono e t)
end
theorem DAll.length : ∀ {vs : List V} {ds : List D}, DAll K G vs ds → vs.length = ds.length
  | _, _, .nil => rfl
  | _, _, .cons _ t => congrArg (· + 1) (DAll.length t)
theorem DAll.get : ∀ {vs : List V} {ds : List D} {i : Nat} {d : D}, DAll K G vs ds → ds[i]? = some d → ∃ v, vs[i]? = some v ∧ DOk K G v d
  | _, _, _, _, .nil, e => by simp at e
  | _, _, 0, _, .cons h _, e => by simp at e; subst e; exact ⟨_, rfl, h⟩
  | _, _, i + 1, _, .cons _ t, e => by
    obtain ⟨v, h1, h2⟩ := DAll.get (i := i) t (by simpa using e)
    exact ⟨v, by simpa using h1, h2⟩
theorem DAll.getV : ∀ {vs : List V} {ds : List D} {i : Nat} {v : V}, DAll K G vs ds → vs[i]? = some v → ∃ d, ds[i]? = some d ∧ DOk K G v d
  | _, _, _, _, .nil, e => by simp at e
  | _, _, 0, _, .cons h _, e => by simp at e; subst e; exact ⟨_, rfl, h⟩
  | _, _, i + 1, _, .cons _ t, e => by
    obtain ⟨v, h1, h2⟩ := DAll.getV (i := i) t (by simpa using e)
    exact ⟨v, by simpa using h1, h2⟩
theorem DAll.append : ∀ {vs ws : List V} {ds es : List D}, DAll K G vs ds → DAll K G ws es → DAll K G (vs ++ ws) (ds ++ es)
  | _, _, _, _, .nil, s => s
  | _, _, _, _, .cons h t, s => .cons h (DAll.append t s)
theorem DAll.take : ∀ {vs : List V} {ds : List D} (n : Nat), DAll K G vs ds → DAll K G (vs.take n) (ds.take n)
  | _, _, 0, _ => by rw [List.take_zero, List.take_zero]; exact .nil
  | _, _, _ + 1, .nil => .nil
  | _, _, n + 1, .cons h t => .cons h (DAll.take n t)
theorem DAll.drop : ∀ {vs : List V} {ds : List D} (n : Nat), DAll K G vs ds → DAll K G (vs.drop n) (ds.drop n)
  | _, _, 0, r => r
  | _, _, _ + 1, .nil => .nil
  | _, _, n + 1, .cons _ t => DAll.drop n t
theorem DAll.set {v : V} {d : D} (r : DOk K G v d) : ∀ {vs : List V} {ds : List D} (i : Nat), DAll K G vs ds → DAll K G (vs.set i v) (ds.set i d)
  | _, _, _, .nil => .nil
  | _, _, 0, .cons _ t => .cons r t
  | _, _, i + 1, .cons q t => .cons q (DAll.set r i t)
theorem DAll.ints : ∀ (ns : List Int), DAll K G (ns.map V.int) (ns.map D.int)
  | [] => .nil
  | n :: r => .cons (.int n) (DAll.ints r)
theorem FAll.look {κ : Type} [BEq κ] : ∀ {vs : List (κ × V)} {fs : List (κ × D)} {f : κ} {d : D}, FAll K G vs fs → fs.lookup f = some d → ∃ v, vs.lookup f = some v ∧ DOk K G v d
  | _, _, _, _, .nil, e => by simp at e
  | _, _, f, d, .cons (x := x) h t, e => by
    rw [List.lookup_cons] at e
    rw [List.lookup_cons]
    cases q : f == x with
    | true => rw [q] at e; cases e; exact ⟨_, rfl, h⟩
    | false => rw [q] at e; exact FAll.look t e
theorem FAll.lookN {κ : Type} [BEq κ] : ∀ {vs : List (κ × V)} {fs : List (κ × D)} {f : κ}, FAll K G vs fs → fs.lookup f = none → vs.lookup f = none
  | _, _, _, .nil, _ => rfl
  | _, _, f, .cons (x := x) h t, e => by
    rw [List.lookup_cons] at e ⊢
    cases q : f == x with
    | true => rw [q] at e; cases e
    | false => rw [q] at e; exact FAll.lookN t e
end

/-! ### values -/
/-- what an object that is held alone looks like -/
inductive OO where
  | lst (ds : List D)
  | ins (x C : Addr) (fs : List (Str × D))
  | dk (kvs : List (Key × D)) | dt (kvs : List (List Key × D))
inductive DV where
  | d (x : D) | src | own (o : OO) | bor (o : OO) | see (o : OO)

def OwnOk (K : PySem.W.Frag) (G H : Hp) (a : Addr) : OO → Prop
  | .lst ds => ∃ vs, H a = some (.lst vs) ∧ DAll K G vs ds
  | .ins x C fs => a = x ∧ ∃ dx vs, H a = some (.ins C dx vs) ∧ G dx = some (.own a) ∧ FAll K G vs fs
  | .dk kvs => ∃ vs, H a = some (.dK vs) ∧ FAll K G vs kvs
  | .dt kvs => ∃ vs, H a = some (.dT vs) ∧ FAll K G vs kvs
theorem OwnOk.there {K : PySem.W.Frag} {G H : Hp} {a : Addr} {o : OO} (h : OwnOk K G H a o) : H a ≠ none := by
  cases o with
  | lst ds => obtain ⟨vs, e, _⟩ := h; rw [e]; simp
  | ins x C fs => obtain ⟨_, dx, vs, e, _⟩ := h; rw [e]; simp
  | dk kvs => obtain ⟨vs, e, _⟩ := h; rw [e]; simp
  | dt kvs => obtain ⟨vs, e, _⟩ := h; rw [e]; simp
theorem OwnOk.keep {K : PySem.W.Frag} {G H G' H' : Hp} {a : Addr} {o : OO} (h : OwnOk K G H a o) (e : Ex G G') (k : H' a = H a) : OwnOk K G' H' a o := by
  cases o with
  | lst ds => obtain ⟨vs, q, r⟩ := h; exact ⟨vs, by rw [k]; exact q, r.mono e⟩
  | ins x C fs => obtain ⟨ex, dx, vs, q, g, r⟩ := h; exact ⟨ex, dx, vs, by rw [k]; exact q, e _ _ g, r.mono e⟩
  | dk kvs => obtain ⟨vs, q, r⟩ := h; exact ⟨vs, by rw [k]; exact q, r.mono e⟩
  | dt kvs => obtain ⟨vs, q, r⟩ := h; exact ⟨vs, by rw [k]; exact q, r.mono e⟩

/-- what is looked at, a dict locked -/
def BorOk (K : PySem.W.Frag) (G H : Hp) (a : Addr) : OO → Prop
  | .dk kvs => ∃ o vs, H a = some (.frz o (.dK vs)) ∧ FAll K G vs kvs
  | .dt kvs => ∃ o vs, H a = some (.frz o (.dT vs)) ∧ FAll K G vs kvs
  | .lst ds => OwnOk K G H a (.lst ds)
  | .ins x C fs => OwnOk K G H a (.ins x C fs)
theorem BorOk.there {K : PySem.W.Frag} {G H : Hp} {a : Addr} {o : OO} (h : BorOk K G H a o) : H a ≠ none := by
  cases o with
  | lst ds => exact OwnOk.there (K := K) (G := G) (o := .lst ds) h
  | ins x C fs => exact OwnOk.there (K := K) (G := G) (o := .ins x C fs) h
  | dk kvs => obtain ⟨o, vs, e, _⟩ := h; rw [e]; simp
  | dt kvs => obtain ⟨o, vs, e, _⟩ := h; rw [e]; simp
theorem BorOk.keep {K : PySem.W.Frag} {G H G' H' : Hp} {a : Addr} {o : OO} (h : BorOk K G H a o) (e : Ex G G') (k : H' a = H a) : BorOk K G' H' a o := by
  cases o with
  | lst ds => exact OwnOk.keep (o := .lst ds) h e k
  | ins x C fs => exact OwnOk.keep (o := .ins x C fs) h e k
  | dk kvs => obtain ⟨o, vs, q, r⟩ := h; exact ⟨o, vs, by rw [k]; exact q, r.mono e⟩
  | dt kvs => obtain ⟨o, vs, q, r⟩ := h; exact ⟨o, vs, by rw [k]; exact q, r.mono e⟩

/-- what is looked at while it is held alone -/
def SeeOk (K : PySem.W.Frag) (G H : Hp) (a : Addr) (o : OO) : Prop := OwnOk K G H a o
/-- the source of draws: the cells, the place, the rest, the mixed number, the count -/
def SrcOk (K : PySem.W.Frag) (G H : Hp) (a : Addr) : Prop := G a = none ∧ ∃ (c : Addr) (ns : List Int) (i r sd n : Int),
  H a = some (.lst [.ref c, .int i, .int r, .int sd, .int n]) ∧ SqL K G c (ns.map V.int) ∧ ns.length ≤ 63 ∧ 0 ≤ i ∧ 0 ≤ r ∧ 0 ≤ sd ∧ sd < 4294967296

/-- a table of code objects: each that it tells stands in the ground and bears the name q -/
def TabOk (G H : Hp) (a : Addr) (q : Str) : Prop := G a = none ∧ ∃ ps : Array Value, H a = some (.tbl ps) ∧ TriplesOk ps.toList ∧ ∀ (pos : Pos) (cv : Value), codeAmong pos ps.toList = some cv → ∃ c, cv = .ref c ∧ G c = some (LamX.CodeO c q)
/-- what changes on its own: the source of draws, tables of code objects -/
inductive Kd where
  | src | tab (q : Str)
abbrev So := List (Addr × Kd)
def So.Vol (so : So) (a : Addr) : Prop := ∃ k, (a, k) ∈ so
abbrev So.Nt (so : So) (a : Addr) : Prop := ¬ so.Vol a
/-- the defs in whose bodies a lambda is made -/
def lamNames : List Str := ["law", "Tableau.improve", "Ways.layer_step", "_law_layer_step", "plain_forms", "_law_triangles", "_law_case_layer", "_law_fact_row", "needless", "exchangeable", "_law_may", "_law_set", "_law_joined_due", "_law_kept_by_hand"]
/-- their code objects, tables, and the name that the lambdas bear -/
def lamFns (K : PySem.W.Frag) : List (Addr × Addr × Str) := K.filterMap fun p => match p.2.data with
  | .func fd => (match fd.code with
    | .ref c => if lamNames.contains fd.qualname then some (c, He.tabOf K c, fd.qualname ++ ".<locals>." ++ "<lambda>") else none
    | _ => none)
  | _ => none
structure SoOk (K : PySem.W.Frag) (so : So) : Prop where
  tb : ∀ q ∈ lamFns K, (q.2.1, Kd.tab q.2.2) ∈ so
  uq : ∀ a k k', (a, k) ∈ so → (a, k') ∈ so → k = k'
def KOk (K : PySem.W.Frag) (G H : Hp) (a : Addr) : Kd → Prop
  | .src => SrcOk K G H a
  | .tab q => TabOk G H a q
theorem KOk.g {K : PySem.W.Frag} {G H : Hp} {a : Addr} {k : Kd} (h : KOk K G H a k) : G a = none := by
  cases k with
  | src => exact h.1
  | tab q => exact h.1
theorem KOk.there {K : PySem.W.Frag} {G H : Hp} {a : Addr} {k : Kd} (h : KOk K G H a k) : H a ≠ none := by
  cases k with
  | src => obtain ⟨_, _, _, _, _, _, _, e, _⟩ := h; rw [e]; simp
  | tab q => obtain ⟨_, _, e, _⟩ := h; rw [e]; simp
theorem KOk.keep {K : PySem.W.Frag} {H H' G G' : Hp} {a : Addr} {k : Kd} (s : KOk K G H a k) (e : Ex G G') (g : G' a = none) (q : H' a = H a) : KOk K G' H' a k := by
  cases k with
  | src =>
    obtain ⟨_, c, ns, i, r, sd, n, h1, h2, h3⟩ := s
    exact ⟨g, c, ns, i, r, sd, n, by rw [q]; exact h1, ex_l e h2, h3⟩
  | tab z =>
    obtain ⟨_, ps, h1, h2, h3⟩ := s
    exact ⟨g, ps, by rw [q]; exact h1, h2, fun pos cv hc => let ⟨c, e1, e2⟩ := h3 pos cv hc; ⟨c, e1, e _ _ e2⟩⟩

def VOk (K : PySem.W.Frag) (G : Hp) (so : So) (H : Hp) (v : V) : DV → Prop
  | .d x => DOk K G v x
  | .src => ∃ a, (a, .src) ∈ so ∧ v = .ref a
  | .own o => ∃ a, v = .ref a ∧ G a = none ∧ so.Nt a ∧ OwnOk K G H a o
  | .bor o => ∃ a, v = .ref a ∧ so.Nt a ∧ BorOk K G H a o
  | .see o => ∃ a, v = .ref a ∧ so.Nt a ∧ SeeOk K G H a o

structure HRep (K : PySem.W.Frag) (G : Hp) (so : So) (H : Hp) : Prop where
  ex : Ex G H
  vol : ∀ a k, (a, k) ∈ so → KOk K G H a k
  ok : SoOk K so
theorem HRep.nsrc {K : PySem.W.Frag} {G : Hp} {so : So} {H : Hp} (h : HRep K G so H) {a : Addr} {o : HO} (q : G a = some o) : so.Nt a := fun ⟨k, z⟩ => by
  rw [(h.vol a k z).g] at q; cases q
theorem HRep.there {K : PySem.W.Frag} {G : Hp} {so : So} {H : Hp} (h : HRep K G so H) {a : Addr} (q : H a = none) : so.Nt a := fun ⟨k, z⟩ => (h.vol a k z).there q
theorem HRep.vth {K : PySem.W.Frag} {G : Hp} {so : So} {H : Hp} (h : HRep K G so H) {a : Addr} (s : so.Vol a) : H a ≠ none := fun q => h.there q s

abbrev DSt := List (Option DV)
def Own (sl : DSt) (σ : L2.St) (a : Addr) : Prop := ∃ (i : Nat) (o : OO), sl[i]? = some (some (.own o)) ∧ σ[i]? = some (some (.ref a))

structure Rep (K : PySem.W.Frag) (G : Hp) (so : So) (σ : L2.St) (H : Hp) (sl : DSt) : Prop where
  h : HRep K G so H
  len : sl.length = σ.length
  slots : ∀ (i : Nat) (dv : DV), sl[i]? = some (some dv) → ∃ v, σ[i]? = some (some v) ∧ VOk K G so H v dv
  sep : ∀ (i j : Nat) (o o' : OO) (a : Addr), sl[i]? = some (some (.own o)) → sl[j]? = some (some (.own o')) → σ[i]? = some (some (.ref a)) → σ[j]? = some (some (.ref a)) → i = j
  bor : ∀ (i : Nat) (o : OO) (a : Addr), sl[i]? = some (some (.bor o)) → σ[i]? = some (some (.ref a)) → ¬ Own sl σ a
  nse : ∀ (i : Nat) (o : OO), sl[i]? ≠ some (some (.see o))

/-- the heap has grown, all that stood stands; G may have taken in what is new or what the slots held -/
structure Post (K : PySem.W.Frag) (G : Hp) (so : So) (σ : L2.St) (H : Hp) (sl : DSt) (H' G' : Hp) (sl' : DSt) : Prop where
  ex : Ex G G'
  rep : Rep K G' so σ H' sl'
  keep : ∀ a o, H a = some o → so.Nt a → H' a = some o
  frm : ∀ a, H a ≠ none → G a = none → so.Nt a → ¬ Own sl σ a → G' a = none
  sub : ∀ a, Own sl' σ a → Own sl σ a
  bsub : ∀ (i : Nat) (o : OO), sl'[i]? = some (some (.bor o)) → ∃ o', sl[i]? = some (some (.bor o'))
/-- .. and v is the value dv; one that is held alone is in no slot and was not there before -/
structure PostE (K : PySem.W.Frag) (G : Hp) (so : So) (σ : L2.St) (H : Hp) (sl : DSt) (v : V) (H' G' : Hp) (dv : DV) (sl' : DSt) : Prop extends Post K G so σ H sl H' G' sl' where
  val : VOk K G' so H' v dv
  new : ∀ a o, dv = .own o → v = .ref a → H a = none ∨ Own sl σ a
  sepv : ∀ a o, dv = .own o ∨ dv = .bor o → v = .ref a → ¬ Own sl' σ a
  nbs : ∀ (a : Addr) (o : OO) (i : Nat) (o' : OO), dv = .own o → v = .ref a → sl'[i]? = some (some (.bor o')) → σ[i]? = some (some (.ref a)) → False

section
variable {K : PySem.W.Frag} {G G1 G2 : Hp} {so : So} {σ : L2.St} {H H1 H2 : Hp} {sl s1 s2 : DSt} {v x y : V} {dv dx dy : DV}
theorem Rep.nown (r : Rep K G so σ H sl) {a : Addr} (h : Own sl σ a) : H a ≠ none ∧ G a = none ∧ so.Nt a := by
  obtain ⟨i, o, e1, e2⟩ := h
  obtain ⟨v, e3, e4⟩ := r.slots i _ e1
  rw [e2] at e3; cases e3
  obtain ⟨b, q, g, s, k⟩ := e4
  cases q
  exact ⟨k.there, g, s⟩
theorem Post.refl (r : Rep K G so σ H sl) : Post K G so σ H sl H G sl := ⟨Ex.refl G, r, fun _ _ e _ => e, fun _ _ g _ _ => g, fun _ o => o, fun _ o e => ⟨o, e⟩⟩
theorem keep_ne {H H' : Hp} {so : So} (k : ∀ a o, H a = some o → so.Nt a → H' a = some o) {a : Addr} (n : H a ≠ none) (s : so.Nt a) : H' a = H a := by
  cases q : H a with
  | none => exact absurd q n
  | some o => exact k a o q s
theorem Post.trans (a : Post K G so σ H sl H1 G1 s1) (b : Post K G1 so σ H1 s1 H2 G2 s2) : Post K G so σ H sl H2 G2 s2 :=
  ⟨a.ex.trans b.ex, b.rep, fun c o e s => b.keep c o (a.keep c o e s) s, fun c n g s w => by
    have n1 : H1 c ≠ none := by rw [keep_ne a.keep n s]; exact n
    exact b.frm c n1 (a.frm c n g s w) s fun z => w (a.sub c z), fun c o => a.sub c (b.sub c o), fun i o e => let ⟨o1, e1⟩ := b.bsub i o e; a.bsub i o1 e1⟩
/-- a value that is known stays so -/
theorem VOk.keep (h : VOk K G so H x dx) (e : Ex G G1) (k : ∀ a o, H a = some o → so.Nt a → H1 a = some o) (g : ∀ a o, dx = .own o → x = .ref a → G1 a = none) : VOk K G1 so H1 x dx := by
  cases dx with
  | d z => exact DOk.mono e h
  | src => exact h
  | own o =>
    obtain ⟨a, q, q1, q2, q3⟩ := h
    exact ⟨a, q, g a o rfl q, q2, q3.keep e (keep_ne k q3.there q2)⟩
  | bor o =>
    obtain ⟨a, q, q2, q3⟩ := h
    exact ⟨a, q, q2, q3.keep e (keep_ne k q3.there q2)⟩
  | see o =>
    obtain ⟨a, q, q2, q3⟩ := h
    exact ⟨a, q, q2, q3.keep e (keep_ne k q3.there q2)⟩
/-- behind a further expression -/
theorem PostE.over (a : PostE K G so σ H sl x H1 G1 dx s1) (b : Post K G1 so σ H1 s1 H2 G2 s2) : VOk K G2 so H2 x dx :=
  a.val.keep b.ex b.keep fun c o e q => by
    have w : VOk K G1 so H1 x dx := a.val
    rw [e] at w
    obtain ⟨c', q', g, s, k⟩ := w
    rw [q] at q'; cases q'
    exact b.frm c k.there g s (a.sepv c o (.inl e) q)
end

/-! ### steps on values alone: the slots are not looked at -/
structure PostV (K : PySem.W.Frag) (G : Hp) (so : So) (H : Hp) (v : V) (H' G' : Hp) (dv : DV) : Prop where
  ex : Ex G G'
  hrep : HRep K G' so H'
  keep : ∀ a o, H a = some o → so.Nt a → H' a = some o
  frm : ∀ a, H a ≠ none → G a = none → so.Nt a → G' a = none
  val : VOk K G' so H' v dv
  new : ∀ a o, dv = .own o → v = .ref a → H a = none
  nob : ∀ o, dv ≠ .bor o
section
variable {K : PySem.W.Frag} {G G' : Hp} {so : So} {σ : L2.St} {H H' : Hp} {sl : DSt} {v : V} {dv : DV}
theorem PostV.slots (p : PostV K G so H v H' G' dv) (r : Rep K G so σ H sl) : PostE K G so σ H sl v H' G' dv sl where
  ex := p.ex
  rep := ⟨p.hrep, r.len, fun i d e => by
    obtain ⟨w, e1, e2⟩ := r.slots i d e
    refine ⟨w, e1, e2.keep p.ex p.keep fun a o ed q => ?_⟩
    subst ed
    subst q
    obtain ⟨n, g, s⟩ := r.nown ⟨i, o, e, e1⟩
    exact p.frm a n g s, r.sep, r.bor, r.nse⟩
  keep := p.keep
  frm := fun a n g s _ => p.frm a n g s
  sub := fun _ o => o
  bsub := fun _ o e => ⟨o, e⟩
  val := p.val
  new := fun a o e q => .inl (p.new a o e q)
  sepv := fun a o e q z => e.elim (fun e => (r.nown z).1 (p.new a o e q)) fun e => p.nob o e
  nbs := fun a o i o' e q e1 e2 => by
    obtain ⟨w, f1, f2⟩ := r.slots i _ e1
    rw [e2] at f1; cases f1
    obtain ⟨b, z, _, k⟩ := f2
    cases z
    exact k.there (p.new a o e q)
/-- nothing is made -/
theorem PostV.pure (h : HRep K G so H) (w : VOk K G so H v dv) (n : ∀ o, dv ≠ .own o) (m : ∀ o, dv ≠ .bor o) : PostV K G so H v H G dv :=
  ⟨Ex.refl G, h, fun _ _ e _ => e, fun _ _ g _ => g, w, fun _ o e => absurd e (n o), m⟩
/-- a plain value of the model's -/
theorem PostV.dat {x : D} (h : HRep K G so H) (w : DOk K G v x) : PostV K G so H v H G (.d x) := .pure h w (fun _ e => (nomatch e)) fun _ e => (nomatch e)
theorem HRep.alloc {p : Addr} {o : HO} (h : HRep K G so H) (n : H p = none) : HRep K G so (upd H p o) :=
  ⟨h.ex.trans (Ex.new n), fun a k e => (h.vol a k e).keep (Ex.refl G) (h.vol a k e).g (upd_ne fun z => h.there n (z ▸ ⟨k, e⟩)), h.ok⟩
theorem HRep.allocG {p : Addr} {o : HO} (h : HRep K G so H) (n : H p = none) : HRep K (upd G p o) so (upd H p o) :=
  ⟨h.ex.up, fun a k e => 
    have z : a ≠ p := fun z => h.there n (z ▸ ⟨k, e⟩)
    (h.vol a k e).keep (Ex.new (h.ex.free n)) (by rw [upd_ne z]; exact (h.vol a k e).g) (upd_ne z), h.ok⟩
/-- a new list, held alone -/
theorem PostV.list {p : Addr} {vs : List V} {ds : List D} (h : HRep K G so H) (n : H p = none) (a : DAll K G vs ds) : PostV K G so H (.ref p) (upd H p (.lst vs)) G (.own (.lst ds)) :=
  ⟨Ex.refl G, h.alloc n, fun _ _ e _ => Ex.new n _ _ e, fun _ _ g _ => g, ⟨p, rfl, h.ex.free n, h.there n, vs, upd_same, a⟩, fun b o e q => (by cases q; exact n), fun _ e => (nomatch e)⟩
/-- a new tuple -/
theorem PostV.tuple {p : Addr} {vs : List V} {ds : List D} (h : HRep K G so H) (n : H p = none) (a : DAll K G vs ds) : PostV K G so H (.ref p) (upd H p (.tup vs)) (upd G p (.tup vs)) (.d (.tup ds)) :=
  ⟨Ex.new (h.ex.free n), h.allocG n, fun _ _ e _ => Ex.new n _ _ e, fun b q g _ => by rw [upd_ne (fun z => by subst z; exact q n)]; exact g,
    .tup (SqT.of upd_same) (a.mono (Ex.new (h.ex.free n))), fun _ o e => (nomatch e), fun _ e => (nomatch e)⟩
theorem PostV.trans {v1 v2 : V} {d1 d2 : DV} {H1 H2 G1 G2 : Hp} (a : PostV K G so H v1 H1 G1 d1) (b : PostV K G1 so H1 v2 H2 G2 d2) : PostV K G so H v2 H2 G2 d2 :=
  ⟨a.ex.trans b.ex, b.hrep, fun c o e s => b.keep c o (a.keep c o e s) s, fun c n g s => b.frm c (by rw [keep_ne a.keep n s]; exact n) (a.frm c n g s) s, b.val, fun c o e q => by
    cases z : H c with
    | none => rfl
    | some u =>
      have n := b.new c o e q
      by_cases s : so.Vol c
      · exact absurd n (a.hrep.vth s)
      · rw [a.keep c u z s] at n
        exact (nomatch n), b.nob⟩
/-- what was held alone goes into the ground -/
theorem PostV.publish {ds : List D} (p : PostV K G so H v H' G' (.own (.lst ds))) : ∃ G2, PostV K G so H v H' G2 (.d (.lst ds)) := by
  obtain ⟨a, rfl, g, s, vs, e, al⟩ := p.val
  refine ⟨upd G' a (.lst vs), p.ex.trans (Ex.new g), ⟨fun b o q => ?_, fun b k e' => ?_, p.hrep.ok⟩, p.keep, fun b n gb sb => ?_, .lst upd_same (al.mono (Ex.new g)), fun _ o e => (nomatch e), fun _ e => (nomatch e)⟩
  · by_cases z : b = a
    · subst z; rw [upd_same] at q; cases q; exact e
    · rw [upd_ne z] at q; exact p.hrep.ex b o q
  · have z : b ≠ a := fun z => s (z ▸ ⟨k, e'⟩)
    exact (p.hrep.vol b k e').keep (Ex.new g) (by rw [upd_ne z]; exact (p.hrep.vol b k e').g) rfl
  · have z : b ≠ a := fun z => by subst z; exact n (p.new b _ rfl rfl)
    rw [upd_ne z]; exact p.frm b n gb sb
end
end DL

set_option Elab.async false
set_option linter.all false
set_option maxRecDepth 100000
set_option autoImplicit false
set_option maxHeartbeats 2000000
namespace DL
open PySem PySem.Spec PyProof.Rows L2

/-! ### readings -/
abbrev XP := Value → List (Str × D) → DSt → Prop
abbrev TD := DSt → (DV → DSt → Prop) → XP → Prop
abbrev TDT := DSt → (Bool → DSt → Prop) → XP → Prop
abbrev TDA := DSt → (List DV → DSt → Prop) → XP → Prop
structure EndsD where
  nx : DSt → Prop
  rt : DV → Prop
  bk : DSt → Prop
  ct : DSt → Prop
  xc : XP
abbrev TDS := EndsD → DSt → Prop

def XdOk (K : PySem.W.Frag) (G H : Hp) : Option Addr → List (Str × D) → Prop
  | some dx, fs => ∃ vs, H dx = some (.xd vs) ∧ FAll K G vs fs
  | none, fs => fs = []
def XOk (K : PySem.W.Frag) (W : WX) (G : Hp) (so : So) (σ : L2.St) (H : Hp) (sl : DSt) (E : XP) : Prop :=
  ∀ cls d H' G' fs sl', Post K G so σ H sl H' G' sl' → XdOk K G' H' d fs → E cls fs sl' → W cls d σ H'
inductive VsOk (K : PySem.W.Frag) (G : Hp) (so : So) (H : Hp) : List V → List DV → Prop
  | nil : VsOk K G so H [] []
  | cons {v : V} {d : DV} {vs : List V} {ds : List DV} : VOk K G so H v d → (∀ o, d ≠ .own o) → VsOk K G so H vs ds → VsOk K G so H (v :: vs) (d :: ds)

section
variable (K : PySem.W.Frag) (W : WX)
def up (t : TD) : TE := fun σ H R => ∃ G so sl Q E, Rep K G so σ H sl ∧ t sl Q E ∧ (∀ v H' G' dv sl', PostE K G so σ H sl v H' G' dv sl' → Q dv sl' → R v H') ∧ XOk K W G so σ H sl E
def upT (t : TDT) : TT := fun σ H R => ∃ G so sl Q E, Rep K G so σ H sl ∧ t sl Q E ∧ (∀ b H' G' sl', Post K G so σ H sl H' G' sl' → Q b sl' → R b H') ∧ XOk K W G so σ H sl E
def upA (t : TDA) : TA := fun σ H R => ∃ G so sl Q E, Rep K G so σ H sl ∧ t sl Q E ∧ (∀ vs H' G' ds sl', Post K G so σ H sl H' G' sl' → VsOk K G' so H' vs ds → Q ds sl' → R vs H') ∧ XOk K W G so σ H sl E
end
def DE (X : Cx) (W : WX) (e : Expr) (t : TD) : Prop := PE X e (up X.K W t)
def DT (X : Cx) (W : WX) (e : Expr) (t : TDT) : Prop := PT X e (upT X.K W t)
def DA (X : Cx) (W : WX) (es : List Expr) (t : TDA) : Prop := PA X es (upA X.K W t)

theorem pe_imp {X : Cx} {e : Expr} {t t' : TE} (h : PE X e t) (f : ∀ σ H R, t' σ H R → t σ H R) : PE X e t' := ⟨fun pins s σ H Q I q => h.run pins s σ H Q I (f _ _ _ q)⟩
theorem pt_imp {X : Cx} {e : Expr} {t t' : TT} (h : PT X e t) (f : ∀ σ H R, t' σ H R → t σ H R) : PT X e t' := ⟨fun pins s σ H Q I q => h.run pins s σ H Q I (f _ _ _ q)⟩
theorem pw_imp {X : Cx} {e : Expr} {t t' : TT} (h : PW X e t) (f : ∀ σ H R, t' σ H R → t σ H R) : PW X e t' := ⟨fun wh pins s σ H Q I q => h.run wh pins s σ H Q I (f _ _ _ q)⟩
theorem pa_imp {X : Cx} {es : List Expr} {t t' : TA} (h : PA X es t) (f : ∀ σ H R, t' σ H R → t σ H R) : PA X es t' := ⟨fun pos pins s σ H Q I q => h.run pos pins s σ H Q I (f _ _ _ q)⟩
theorem ps_imp {X : Cx} {e : Stmt} {t t' : TS} (h : PS X e t) (f : ∀ D σ H, t' D σ H → t D σ H) : PS X e t' := ⟨fun pins s σ H Q I q => h.run pins s σ H Q I (f _ _ _ q)⟩
theorem pss_imp {X : Cx} {e : List Stmt} {t t' : TS} (h : PSs X e t) (f : ∀ D σ H, t' D σ H → t D σ H) : PSs X e t' := ⟨fun pins s σ H Q I q => h.run pins s σ H Q I (f _ _ _ q)⟩

section
variable {K : PySem.W.Frag} {W : WX} {G G1 G2 : Hp} {so : So} {σ : L2.St} {H H1 H2 : Hp} {sl s1 s2 : DSt} {v x y : V} {dv dx dy : DV} {E : XP}
theorem XOk.step (h : XOk K W G so σ H sl E) (p : Post K G so σ H sl H1 G1 s1) : XOk K W G1 so σ H1 s1 E := fun cls d H' G' fs sl' q a b => h cls d H' G' fs sl' (p.trans q) a b
theorem Post.back (a : Post K G so σ H sl H1 G1 s1) {c : Addr} (n : H1 c = none) : H c = none := by
  cases z : H c with
  | none => rfl
  | some u =>
    by_cases s : so.Vol c
    · exact absurd n (a.rep.h.vth s)
    · rw [a.keep c u z s] at n; cases n
theorem Post.thenE (a : Post K G so σ H sl H1 G1 s1) (b : PostE K G1 so σ H1 s1 v H2 G2 dv s2) : PostE K G so σ H sl v H2 G2 dv s2 :=
  { a.trans b.toPost with
    val := b.val
    new := fun c o e q => (b.new c o e q).imp a.back (a.sub c)
    sepv := b.sepv
    nbs := b.nbs }
theorem Post.thenV (a : Post K G so σ H sl H1 G1 s1) (b : PostV K G1 so H1 v H2 G2 dv) : PostE K G so σ H sl v H2 G2 dv s1 := a.thenE (b.slots a.rep)
theorem VsOk.keep : ∀ {vs : List V} {ds : List DV}, VsOk K G so H vs ds → Ex G G1 → (∀ a o, H a = some o → so.Nt a → H1 a = some o) → VsOk K G1 so H1 vs ds
  | _, _, .nil, _, _ => .nil
  | _, _, .cons h n t, e, k => .cons (h.keep e k fun a o q => absurd q (n o)) n (VsOk.keep t e k)
theorem VsOk.length : ∀ {vs : List V} {ds : List DV}, VsOk K G so H vs ds → vs.length = ds.length
  | _, _, .nil => rfl
  | _, _, .cons _ _ t => congrArg (· + 1) (VsOk.length t)
end

/-! ### publishing -/
def pubO : OO → D
  | .lst ds => .lst ds
  | .ins _ C fs => .ins C fs
  | .dk _ => .any
  | .dt _ => .any
def pubV : DV → DV
  | .own o => .d (pubO o)
  | x => x
theorem pubV_not (dv : DV) : ∀ o, pubV dv ≠ .own o := fun o h => by cases dv <;> cases h
section
variable {K : PySem.W.Frag} {W : WX} {G G1 G2 : Hp} {so : So} {σ : L2.St} {H H1 H2 : Hp} {sl s1 s2 : DSt} {v x y : V} {dv dx dy : DV} {E : XP}
theorem own_ok {a : Addr} {o : OO} (h : OwnOk K G H a o) (g : G a = none) : ∃ u, H a = some u ∧ DOk K (upd G a u) (.ref a) (pubO o) := by
  cases o with
  | lst ds => obtain ⟨vs, e, r⟩ := h; exact ⟨_, e, .lst upd_same (r.mono (Ex.new g))⟩
  | ins x C fs => obtain ⟨_, dx, vs, e, gd, r⟩ := h; exact ⟨_, e, .ins upd_same (Ex.new g _ _ gd) (r.mono (Ex.new g))⟩
  | dk kvs => obtain ⟨vs, e, r⟩ := h; exact ⟨_, e, .any _⟩
  | dt kvs => obtain ⟨vs, e, r⟩ := h; exact ⟨_, e, .any _⟩
theorem hrep_pub {a : Addr} {u : HO} (h : HRep K G so H) (e : H a = some u) (g : G a = none) (s : so.Nt a) : HRep K (upd G a u) so H :=
  ⟨fun b o q => by
    by_cases z : b = a
    · subst z; rw [upd_same] at q; cases q; exact e
    · rw [upd_ne z] at q; exact h.ex b o q,
  fun b k q => by
    have z : b ≠ a := fun z => s (z ▸ ⟨k, q⟩)
    exact (h.vol b k q).keep (Ex.new g) (by rw [upd_ne z]; exact (h.vol b k q).g) rfl, h.ok⟩
/-- the slots that hold nothing at a are as they were when a goes into the ground -/
theorem rep_pub {a : Addr} {u : HO} (r : Rep K G so σ H sl) (e : H a = some u) (g : G a = none) (s : so.Nt a) (n : ¬ Own sl σ a) : Rep K (upd G a u) so σ H sl :=
  ⟨hrep_pub r.h e g s, r.len, fun i d q => by
    obtain ⟨w, e1, e2⟩ := r.slots i d q
    refine ⟨w, e1, e2.keep (Ex.new g) (fun _ _ z _ => z) fun b o ed qb => ?_⟩
    subst ed; subst qb
    have z : b ≠ a := fun z => n ⟨i, o, q, z ▸ e1⟩
    rw [upd_ne z]; exact (r.nown ⟨i, o, q, e1⟩).2.1, r.sep, r.bor, r.nse⟩
theorem PostE.pub (p : PostE K G so σ H sl v H1 G1 dv s1) : ∃ G2, PostE K G so σ H sl v H1 G2 (pubV dv) s1 := by
  cases dv with
  | d x => exact ⟨G1, p⟩
  | src => exact ⟨G1, p⟩
  | bor o => exact ⟨G1, p⟩
  | see o => exact ⟨G1, p⟩
  | own o =>
    obtain ⟨a, q, g, s, ok⟩ := p.val
    subst q
    obtain ⟨u, e, dk⟩ := own_ok ok g
    have n := p.sepv a o (.inl rfl) rfl
    refine ⟨upd G1 a u, { ex := p.ex.trans (Ex.new g), rep := rep_pub p.rep e g s n, keep := p.keep, frm := fun b n1 g1 s1' w => ?_, sub := p.sub, bsub := p.bsub, val := dk, new := fun _ o' e' => (nomatch e'), sepv := fun _ o' e' => e'.elim (fun e' => (nomatch e')) fun e' => (nomatch e'), nbs := fun _ _ _ _ e' => (nomatch e') }⟩
    have z : b ≠ a := fun z => by
      subst z
      rcases p.new b o rfl rfl with k | k
      · exact n1 k
      · exact w k
    rw [upd_ne z]; exact p.frm b n1 g1 s1' w
end

/-! ### names, constants -/
def dC (x : D) : TD := fun sl Q _ => Q (.d x) sl
/-- a name, its list shared from now on -/
def dVar (i : Nat) : TD := fun sl Q _ => match sl[i]? with
  | some (some (.own o)) => Q (.d (pubO o)) (sl.set i (some (.d (pubO o))))
  | some (some dv) => Q dv sl
  | _ => False
/-- a name that is looked at -/
def dSee (i : Nat) : TD := fun sl Q _ => match sl[i]? with
  | some (some (.own o)) => Q (.see o) sl
  | some (some dv) => Q dv sl
  | _ => False
section
variable {K : PySem.W.Frag} {W : WX} {G G1 G2 : Hp} {so : So} {σ : L2.St} {H H1 H2 : Hp} {sl s1 s2 : DSt} {v x y : V} {dv dx dy : DV} {E : XP} {X : Cx}
theorem de_c {e : Expr} {u : V} {d : D} (h : PE X e (tC u)) (r : ∀ G, DOk X.K G u d) : DE X W e (dC d) := pe_imp h fun σ H R ⟨G, so, sl, Q, E, rep, q, hq, _⟩ =>
  hq u H G _ sl ((Post.refl rep).thenV (.dat rep.h (r G))) q
theorem de_int {i : Int} {j : Nat} {pos : Pos} : DE X W (.Constant (.int i) j pos) (dC (.int i)) := de_c pe_int fun _ => .int _
theorem de_bl {b : Bool} {j : Nat} {pos : Pos} : DE X W (.Constant (.bool b) j pos) (dC (.bl b)) := de_c pe_bl fun _ => .bl _
theorem de_non {j : Nat} {pos : Pos} : DE X W (.Constant .none j pos) (dC .non) := de_c pe_non fun _ => .non
theorem de_str {x : Str} {j : Nat} {pos : Pos} : DE X W (.Constant (.str x) j pos) (dC (.str x)) := de_c pe_str fun _ => .str _
theorem VOk.see {o : OO} (h : VOk K G so H v (.own o)) : VOk K G so H v (.see o) := by
  obtain ⟨a, q, _, s, k⟩ := h
  exact ⟨a, q, s, k⟩
theorem PostE.here (rep : Rep K G so σ H sl) (w : VOk K G so H v dv) (n : ∀ o, dv ≠ .own o) (m : ∀ a o, dv = .bor o → v = .ref a → ¬ Own sl σ a) : PostE K G so σ H sl v H G dv sl :=
  { Post.refl rep with
    val := w
    new := fun _ o e => absurd e (n o)
    sepv := fun a o e q => e.elim (fun e => absurd e (n o)) fun e => m a o e q
    nbs := fun _ o _ _ e => absurd e (n o) }
theorem own_set {i : Nat} {d : D} {a : Addr} (h : Own (sl.set i (some (.d d))) σ a) : Own sl σ a ∧ σ[i]? ≠ some (some (.ref a)) ∨ (Own sl σ a ∧ ∃ j, j ≠ i ∧ ∃ o, sl[j]? = some (some (.own o)) ∧ σ[j]? = some (some (.ref a))) := by
  obtain ⟨j, o, e1, e2⟩ := h
  have ne : j ≠ i := fun z => by
    subst z
    rw [List.getElem?_set] at e1
    split at e1
    · split at e1 <;> cases e1
    · rename_i k; exact k rfl
  rw [List.getElem?_set_ne ne.symm] at e1
  exact .inr ⟨⟨j, o, e1, e2⟩, j, ne, o, e1, e2⟩
theorem de_var {i : Nat} {n : Str} {pos : Pos} (h : PE X (.Name n pos) (tVar i)) : DE X W (.Name n pos) (dVar i) := pe_imp h fun σ H R ⟨G, so, sl, Q, E, rep, q, hq, _⟩ => by
  unfold dVar at q
  split at q
  · rename_i o e
    obtain ⟨v, e1, w⟩ := rep.slots i _ e
    refine ⟨v, e1, ?_⟩
    obtain ⟨a, qa, g, s, ok⟩ := w
    subst qa
    obtain ⟨u, eu, dk⟩ := own_ok ok g
    have others : ∀ b, Own (sl.set i (some (.d (pubO o)))) σ b → Own sl σ b ∧ b ≠ a := fun b z => by
      rcases own_set z with ⟨k1, k2⟩ | ⟨k1, j, ne, o', k2, k3⟩
      · exact ⟨k1, fun z => k2 (z ▸ e1)⟩
      · exact ⟨k1, fun z => ne (rep.sep j i o' o a k2 e (z ▸ k3) e1)⟩
    refine hq _ H (upd G a u) _ _ ?_ q
    refine { ex := Ex.new g, rep := ⟨hrep_pub rep.h eu g s, by rw [List.length_set]; exact rep.len, fun j d ej => ?_, fun j k o1 o2 b e1' e2' e3 e4 => ?_, fun j o1 b e1' e2' z => ?_, fun j o1 z => ?_⟩, keep := fun _ _ z _ => z, frm := fun b n1 g1 s1 w => ?_, sub := fun b z => (others b z).1, bsub := fun j o1 z => ?_, val := dk, new := fun _ o' e' => (nomatch e'), sepv := fun _ o' e' => e'.elim (fun e' => (nomatch e')) fun e' => (nomatch e'), nbs := fun _ _ _ _ e' => (nomatch e') }
    · by_cases ji : j = i
      · subst ji
        rw [List.getElem?_set] at ej
        split at ej
        · split at ej
          · cases ej; exact ⟨_, e1, dk⟩
          · cases ej
        · rename_i k; exact absurd rfl k
      · rw [List.getElem?_set_ne (Ne.symm ji)] at ej
        obtain ⟨w', f1, f2⟩ := rep.slots j d ej
        refine ⟨w', f1, f2.keep (Ex.new g) (fun _ _ z _ => z) fun b o' ed qb => ?_⟩
        subst ed; subst qb
        have z : b ≠ a := fun z => ji (rep.sep j i o' o a ej e (z ▸ f1) e1)
        rw [upd_ne z]; exact (rep.nown ⟨j, o', ej, f1⟩).2.1
    · have f : ∀ (m : Nat) (o3 : OO), (sl.set i (some (.d (pubO o))))[m]? = some (some (.own o3)) → sl[m]? = some (some (.own o3)) := fun m o3 em => by
        by_cases mi : m = i
        · subst mi
          rw [List.getElem?_set] at em
          split at em
          · split at em <;> cases em
          · rename_i k; exact absurd rfl k
        · rw [List.getElem?_set_ne (Ne.symm mi)] at em; exact em
      exact rep.sep j k o1 o2 b (f _ _ e1') (f _ _ e2') e3 e4
    · have ne : j ≠ i := fun z => by
        subst z
        rw [List.getElem?_set] at e1'
        split at e1'
        · split at e1' <;> cases e1'
        · rename_i k; exact absurd rfl k
      rw [List.getElem?_set_ne (Ne.symm ne)] at e1'
      exact rep.bor j o1 b e1' e2' (others b z).1
    · by_cases ne : j = i
      · subst ne
        rw [List.getElem?_set] at z
        split at z
        · split at z <;> cases z
        · rename_i k; exact absurd rfl k
      · rw [List.getElem?_set_ne (Ne.symm ne)] at z
        exact rep.nse j o1 z
    · have z : b ≠ a := fun z => w ⟨i, o, e, z ▸ e1⟩
      rw [upd_ne z]; exact g1
    · by_cases ne : j = i
      · subst ne
        rw [List.getElem?_set] at z
        split at z
        · split at z <;> cases z
        · rename_i k; exact absurd rfl k
      · rw [List.getElem?_set_ne (Ne.symm ne)] at z
        exact ⟨o1, z⟩
  · rename_i dv no e
    obtain ⟨v, e1, w⟩ := rep.slots i _ e
    exact ⟨v, e1, hq v H G dv sl (.here rep w (fun o z => no o z) fun a o z z2 => by subst z; subst z2; exact rep.bor i o a e e1) q⟩
  · exact q.elim
theorem de_see {i : Nat} {n : Str} {pos : Pos} (h : PE X (.Name n pos) (tVar i)) : DE X W (.Name n pos) (dSee i) := pe_imp h fun σ H R ⟨G, so, sl, Q, E, rep, q, hq, _⟩ => by
  unfold dSee at q
  split at q
  · rename_i o e
    obtain ⟨v, e1, w⟩ := rep.slots i _ e
    exact ⟨v, e1, hq v H G _ sl (.here rep w.see (fun _ z => (nomatch z)) fun _ _ z => (nomatch z)) q⟩
  · rename_i dv no e
    obtain ⟨v, e1, w⟩ := rep.slots i _ e
    exact ⟨v, e1, hq v H G dv sl (.here rep w (fun o z => no o z) fun a o z z2 => by subst z; subst z2; exact rep.bor i o a e e1) q⟩
  · exact q.elim
end

/-! ### operations on values -/
def OpSem (K : PySem.W.Frag) (r : R2) (rd : DV → DV → (DV → Prop) → Prop) : Prop := ∀ (G : Hp) (so : So) (H : Hp) (x y : V) (dx dy : DV) (Q : DV → Prop) (R : VK), HRep K G so H → VOk K G so H x dx → VOk K G so H y dy → rd dx dy Q →
  (∀ v H' G' dv, PostV K G so H v H' G' dv → Q dv → R v H') → r x y H R
def UnSem (K : PySem.W.Frag) (r : V → Hp → VK → Prop) (rd : DV → (DV → Prop) → Prop) : Prop := ∀ (G : Hp) (so : So) (H : Hp) (x : V) (dx : DV) (Q : DV → Prop) (R : VK), HRep K G so H → VOk K G so H x dx → rd dx Q →
  (∀ v H' G' dv, PostV K G so H v H' G' dv → Q dv → R v H') → r x H R
def CallSem (K : PySem.W.Frag) (r : List V → Hp → VK → Prop) (rd : List DV → (DV → Prop) → Prop) : Prop := ∀ (G : Hp) (so : So) (H : Hp) (xs : List V) (dxs : List DV) (Q : DV → Prop) (R : VK), HRep K G so H → VsOk K G so H xs dxs → rd dxs Q →
  (∀ v H' G' dv, PostV K G so H v H' G' dv → Q dv → R v H') → r xs H R
def dOp (rd : DV → DV → (DV → Prop) → Prop) (ta tb : TD) : TD := fun sl Q E => ta sl (fun x s1 => tb s1 (fun y s2 => rd x y fun z => Q z s2) E) E
def dUn (rd : DV → (DV → Prop) → Prop) (ta : TD) : TD := fun sl Q E => ta sl (fun x s1 => rd x fun z => Q z s1) E
def dCB (rd : List DV → (DV → Prop) → Prop) (ta : TDA) : TD := fun sl Q E => ta sl (fun xs s1 => rd xs fun z => Q z s1) E
def dNil : TDA := fun sl Q _ => Q [] sl
def dCons (ta : TD) (tr : TDA) : TDA := fun sl Q E => ta sl (fun x s1 => tr s1 (fun xs s2 => Q (pubV x :: xs) s2) E) E
section
variable {K : PySem.W.Frag} {W : WX} {σ : L2.St} {H : Hp} {R : VK} {ta tb : TD} {X : Cx} {a b e : Expr} {pos : Pos}
theorem up_op {r : R2} {rd : DV → DV → (DV → Prop) → Prop} (hr : OpSem K r rd) (h : up K W (dOp rd ta tb) σ H R) : tOp r (up K W ta) (up K W tb) σ H R := by
  obtain ⟨G, so, sl, Q, E, rep, q, hq, hx⟩ := h
  refine ⟨G, so, sl, _, E, rep, q, fun x H1 G1 dx s1 p1 h1 => ?_, hx⟩
  refine ⟨G1, so, s1, _, E, p1.rep, h1, fun y H2 G2 dy s2 p2 h2 => ?_, hx.step p1.toPost⟩
  exact hr G2 so H2 x y dx dy _ R p2.rep.h (p1.over p2.toPost) p2.val h2 fun v H' G' dv pv hz => hq v H' G' dv s2 ((p1.toPost.trans p2.toPost).thenV pv) hz
theorem up_un {r : V → Hp → VK → Prop} {rd : DV → (DV → Prop) → Prop} (hr : UnSem K r rd) (h : up K W (dUn rd ta) σ H R) : tUn r (up K W ta) σ H R := by
  obtain ⟨G, so, sl, Q, E, rep, q, hq, hx⟩ := h
  refine ⟨G, so, sl, _, E, rep, q, fun x H1 G1 dx s1 p1 h1 => ?_, hx⟩
  exact hr G1 so H1 x dx _ R p1.rep.h p1.val h1 fun v H' G' dv pv hz => hq v H' G' dv s1 (p1.toPost.thenV pv) hz
theorem up_cb {r : List V → Hp → VK → Prop} {rd : List DV → (DV → Prop) → Prop} {t : TDA} (hr : CallSem K r rd) (h : up K W (dCB rd t) σ H R) : tCB r (upA K W t) σ H R := by
  obtain ⟨G, so, sl, Q, E, rep, q, hq, hx⟩ := h
  refine ⟨G, so, sl, _, E, rep, q, fun vs H1 G1 ds s1 p1 w h1 => ?_, hx⟩
  exact hr G1 so H1 vs ds _ R p1.rep.h w h1 fun v H' G' dv pv hz => hq v H' G' dv s1 (p1.thenV pv) hz
theorem da_nil : DA X W [] dNil := pa_imp pa_nil fun σ H R ⟨G, so, sl, Q, E, rep, q, hq, _⟩ => hq [] H G [] sl (.refl rep) .nil q
theorem da_cons {es : List Expr} {tr : TDA} (ha : DE X W e ta) (hr : DA X W es tr) (hs : starEach (e :: es) X.env = (false, eval e X.env) :: starEach es X.env := by rfl) : DA X W (e :: es) (dCons ta tr) := by
  refine pa_imp (pa_cons ha hr hs) fun σ H R ⟨G, so, sl, Q, E, rep, q, hq, hx⟩ => ?_
  refine ⟨G, so, sl, _, E, rep, q, fun x H1 G1 dx s1 p1 h1 => ?_, hx⟩
  obtain ⟨G1', p1'⟩ := p1.pub
  refine ⟨G1', so, s1, _, E, p1'.rep, h1, fun vs H2 G2 ds s2 p2 w h2 => ?_, hx.step p1'.toPost⟩
  exact hq (x :: vs) H2 G2 (pubV dx :: ds) s2 (p1'.toPost.trans p2) (.cons (p1'.over p2) (pubV_not dx) w) h2
theorem de_op {op : Operator} {r : R2} {rd : DV → DV → (DV → Prop) → Prop} (ho : OpR X (binaryOp op) r) (hr : OpSem X.K r rd) (ha : DE X W a ta) (hb : DE X W b tb) : DE X W (.BinOp a op b pos) (dOp rd ta tb) := pe_imp (pe_op ho ha hb) fun _ _ _ h => up_op hr h
theorem de_un {op : UnaryOp} {r : V → Hp → VK → Prop} {rd : DV → (DV → Prop) → Prop} (ho : UnR X (unaryOp op) r) (hr : UnSem X.K r rd) (ha : DE X W a ta) : DE X W (.UnaryOp op a pos) (dUn rd ta) := pe_imp (pe_un ho ha) fun _ _ _ h => up_un hr h
theorem de_cmp {op : CmpOp} {r : R2} {rd : DV → DV → (DV → Prop) → Prop} (ho : OpR X (compareOp op) r) (hr : OpSem X.K r rd) (ha : DE X W a ta) (hb : DE X W b tb) (hm : behindInMarks op b = false) : DE X W (.Compare a [op] [b] pos) (dOp rd ta tb) := pe_imp (pe_cmpR ho ha hb hm) fun _ _ _ h => up_op hr h
theorem de_ix {r : R2} {rd : DV → DV → (DV → Prop) → Prop} (ho : IxR X r) (hr : OpSem X.K r rd) (ha : DE X W a ta) (hb : DE X W b tb) (hs : PlainIx b) : DE X W (.Subscript a b pos) (dOp rd ta tb) := pe_imp (pe_ix ho ha hb hs) fun _ _ _ h => up_op hr h
end
end DL

set_option Elab.async false
set_option linter.all false
set_option maxRecDepth 100000
set_option autoImplicit false
set_option maxHeartbeats 2000000
namespace DL
open PySem PySem.Spec PyProof.Rows L2

/-! ### trees as plain data -/
mutual
def D.py : D → Option PyData
  | .non => some .none
  | .bl b => some (.bool b)
  | .int i => some (.int i)
  | .str x => some (.str x)
  | .lst ds => (D.pyAll ds).map .list
  | .tup ds => (D.pyAll ds).map .tuple
  | .ins _ _ => none
  | .dk _ => none
  | .dt _ => none
  | .any => none
  | .raw _ => none
def D.pyAll : List D → Option (List PyData)
  | [] => some []
  | d :: r => match D.py d, D.pyAll r with
    | some p, some ps => some (p :: ps)
    | _, _ => none
end
/-- a value as a tree -/
def DV.dat : DV → Option D
  | .d x => some x
  | .own o => some (pubO o)
  | .bor o => some (pubO o)
  | .see o => some (pubO o)
  | .src => none
def DV.items : DV → Option (List D)
  | .d (.lst ds) => some ds
  | .own (.lst ds) => some ds
  | .bor (.lst ds) => some ds
  | .see (.lst ds) => some ds
  | _ => none

section
variable {K : PySem.W.Frag} {G H : Hp} {so : So} {v x y : V} {dv dx dy : DV}
mutual
theorem DOk.dp (e : Ex G H) : ∀ (d : D) (v : V) (p : PyData), DOk K G v d → d.py = some p → Dp K H v p
  | .non, _, _, h, q => by cases h; cases q; exact .non
  | .bl b, _, _, h, q => by cases h; cases q; exact .bl b
  | .int i, _, _, h, q => by cases h; cases q; exact .int i
  | .str x, _, _, h, q => by cases h; cases q; exact .str x
  | .lst ds, _, p, h, q => by
    unfold D.py at q
    cases z : D.pyAll ds with
    | none => rw [z] at q; cases q
    | some ps =>
      rw [z] at q; cases q
      cases h with
      | lst g a => exact .lst (SqL.of (e _ _ g)) (DAll.dp e ds _ ps a z)
  | .tup ds, _, p, h, q => by
    unfold D.py at q
    cases z : D.pyAll ds with
    | none => rw [z] at q; cases q
    | some ps =>
      rw [z] at q; cases q
      cases h with
      | tup g a => exact .tup (ex_t e g) (DAll.dp e ds _ ps a z)
  | .ins _ _, _, _, _, q => by cases q
  | .dk _, _, _, _, q => by cases q
  | .dt _, _, _, _, q => by cases q
  | .any, _, _, _, q => by cases q
  | .raw _, _, _, _, q => by cases q
theorem DAll.dp (e : Ex G H) : ∀ (ds : List D) (vs : List V) (ps : List PyData), DAll K G vs ds → D.pyAll ds = some ps → DpAll K H vs ps
  | [], _, _, h, q => by cases h; cases q; exact .nil
  | d :: r, _, ps, h, q => by
    cases h with
    | cons h1 h2 =>
      unfold D.pyAll at q
      cases z1 : D.py d with
      | none => rw [z1] at q; cases q
      | some p =>
        cases z2 : D.pyAll r with
        | none => rw [z1, z2] at q; cases q
        | some qs =>
          rw [z1, z2] at q; cases q
          exact .cons (DOk.dp e d _ p h1 z1) (DAll.dp e r _ qs h2 z2)
end
theorem VOk.dp {d : D} {p : PyData} (h : HRep K G so H) (w : VOk K G so H v dv) (e : dv.dat = some d) (q : d.py = some p) : Dp K H v p := by
  cases dv with
  | d z => cases e; exact DOk.dp h.ex _ _ _ w q
  | src => cases e
  | own o =>
    cases e
    obtain ⟨a, rfl, _, _, ok⟩ := w
    cases o with
    | lst ds =>
      obtain ⟨vs, e1, al⟩ := ok
      unfold pubO D.py at q
      cases z : D.pyAll ds with
      | none => rw [z] at q; cases q
      | some ps => rw [z] at q; cases q; exact .lst (SqL.of e1) (DAll.dp h.ex ds _ ps al z)
    | ins x C fs => unfold pubO D.py at q; cases q
    | dk _ => unfold pubO D.py at q; cases q
    | dt _ => unfold pubO D.py at q; cases q
  | bor o =>
    cases e
    obtain ⟨a, rfl, _, ok⟩ := w
    cases o with
    | lst ds =>
      obtain ⟨vs, e1, al⟩ := ok
      unfold pubO D.py at q
      cases z : D.pyAll ds with
      | none => rw [z] at q; cases q
      | some ps => rw [z] at q; cases q; exact .lst (SqL.of e1) (DAll.dp h.ex ds _ ps al z)
    | ins x C fs => unfold pubO D.py at q; cases q
    | dk _ => unfold pubO D.py at q; cases q
    | dt _ => unfold pubO D.py at q; cases q
  | see o =>
    cases e
    obtain ⟨a, rfl, _, ok⟩ := w
    cases o with
    | lst ds =>
      obtain ⟨vs, e1, al⟩ := ok
      unfold pubO D.py at q
      cases z : D.pyAll ds with
      | none => rw [z] at q; cases q
      | some ps => rw [z] at q; cases q; exact .lst (SqL.of e1) (DAll.dp h.ex ds _ ps al z)
    | ins x C fs => unfold pubO D.py at q; cases q
    | dk _ => unfold pubO D.py at q; cases q
    | dt _ => unfold pubO D.py at q; cases q
theorem VOk.list {ds : List D} (h : HRep K G so H) (w : VOk K G so H v dv) (e : dv.items = some ds) : ∃ a vs, v = .ref a ∧ H a = some (.lst vs) ∧ DAll K G vs ds := by
  unfold DV.items at e
  split at e
  · cases e
    cases w with
    | lst g a => exact ⟨_, _, rfl, h.ex _ _ g, a⟩
  · cases e
    obtain ⟨a, rfl, _, _, vs, e1, al⟩ := w
    exact ⟨a, vs, rfl, e1, al⟩
  · cases e
    obtain ⟨a, rfl, _, vs, e1, al⟩ := w
    exact ⟨a, vs, rfl, e1, al⟩
  · cases e
    obtain ⟨a, rfl, _, vs, e1, al⟩ := w
    exact ⟨a, vs, rfl, e1, al⟩
  · cases e
theorem VOk.tup {ds : List D} (h : HRep K G so H) (w : VOk K G so H v (.d (.tup ds))) : ∃ a vs, v = .ref a ∧ SqT K H a vs ∧ DAll K G vs ds := by
  cases w with
  | tup g a => exact ⟨_, _, rfl, ex_t h.ex g, a⟩
end

/-! ### arithmetic -/
abbrev szl : Nat := 16777216
theorem szl_eq : szl = sizeLine := by rw [sizeLine_eq]
@[irreducible] def addR : DV → DV → (DV → Prop) → Prop
  | .d (.int i), .d (.int j), Q => Q (.d (.int (i + j)))
  | .d (.str a), .d (.str b), Q => a.length + b.length ≤ szl ∧ Q (.d (.str (a ++ b)))
  | .d (.tup a), .d (.tup b), Q => a.length + b.length ≤ szl ∧ Q (.d (.tup (a ++ b)))
  | x, y, Q => match x.items, y.items with
    | some a, some b => a.length + b.length ≤ szl ∧ Q (.own (.lst (a ++ b)))
    | _, _ => False
@[irreducible] def intR (C : Int → Int → Prop) (f : Int → Int → D) : DV → DV → (DV → Prop) → Prop
  | .d (.int i), .d (.int j), Q => C i j ∧ Q (.d (f i j))
  | _, _, _ => False
@[irreducible] def intR0 (f : Int → Int → D) : DV → DV → (DV → Prop) → Prop
  | .d (.int i), .d (.int j), Q => Q (.d (f i j))
  | _, _, _ => False
@[irreducible] def negR : DV → (DV → Prop) → Prop
  | .d (.int i), Q => Q (.d (.int (-i)))
  | _, _ => False
section
variable {K : PySem.W.Frag} {X : Cx} {W : WX} {a b : Expr} {ta tb : TD} {pos : Pos}
theorem sem_intR {C : Int → Int → Prop} {f : Int → Int → D} {g : Int → Int → V} (hg : ∀ G i j, DOk K G (g i j) (f i j)) : OpSem K (rI C g) (intR C f) := by
  intro G so H x y dx dy Q R h wx wy q k
  unfold intR at q
  split at q
  · cases wx; cases wy; exact ⟨_, _, rfl, rfl, q.1, k _ H G _ (.dat h (hg G _ _)) q.2⟩
  · exact q.elim
theorem sem_intR0 {f : Int → Int → D} {g : Int → Int → V} (hg : ∀ G i j, DOk K G (g i j) (f i j)) : OpSem K (rI0 g) (intR0 f) := by
  intro G so H x y dx dy Q R h wx wy q k
  unfold intR0 at q
  split at q
  · cases wx; cases wy; exact ⟨_, _, rfl, rfl, k _ H G _ (.dat h (hg G _ _)) q⟩
  · exact q.elim
def rAddS1 : R2 := fun x y H Q => ∃ i j, x = .str i ∧ y = .str j ∧ i.length + j.length ≤ sizeLine ∧ Q (.str (i ++ j)) H
def rAddAll (K : PySem.W.Frag) : R2 := fun x y H Q => (rI0 fun i j => .int (i + j)) x y H Q ∨ (rAddS1 x y H Q ∨ (rCatA K x y H Q ∨ rCat x y H Q))
theorem op_addAll : OpR X (binaryOp .Add) (rAddAll X.K) := OpR.or op_add (OpR.or op_add_str (OpR.or op_catA op_cat))
theorem sem_add : OpSem K (rAddAll K) addR := by
  intro G so H x y dx dy Q R h wx wy q k
  unfold addR at q
  split at q
  · cases wx; cases wy; exact .inl ⟨_, _, rfl, rfl, k _ H G _ (.dat h (.int _)) q⟩
  · cases wx; cases wy; exact .inr (.inl ⟨_, _, rfl, rfl, by rw [← szl_eq]; exact q.1, k _ H G _ (.dat h (.str _)) q.2⟩)
  · obtain ⟨a, vs, rfl, g1, a1⟩ := VOk.tup h wx
    obtain ⟨b, ws, rfl, g2, a2⟩ := VOk.tup h wy
    refine .inr (.inr (.inl ⟨a, b, vs, ws, rfl, rfl, g1, g2, ?_, fun z => ?_, fun _ z => ?_, fun _ _ p n => ?_⟩))
    · rw [a1.length, a2.length, ← szl_eq]; exact q.1
    · subst z; cases a1; exact k _ H G _ (.dat h (by have w : DOk K G _ _ := wy; simpa using w)) q.2
    · subst z; cases a2; exact k _ H G _ (.dat h (by have w : DOk K G _ _ := wx; simpa using w)) q.2
    · exact k _ _ _ _ (.tuple h n (a1.append a2)) q.2
  · split at q
    · rename_i e1 e2
      obtain ⟨a, vs, rfl, g1, a1⟩ := VOk.list h wx e1
      obtain ⟨b, ws, rfl, g2, a2⟩ := VOk.list h wy e2
      refine .inr (.inr (.inr ⟨a, b, vs, ws, rfl, rfl, g1, g2, ?_, fun p n => ?_⟩))
      · rw [a1.length, a2.length, ← szl_eq]; exact q.1
      · exact k _ _ _ _ (.list h n (a1.append a2)) q.2
    · exact q.elim
theorem de_add (ha : DE X W a ta) (hb : DE X W b tb) : DE X W (.BinOp a .Add b pos) (dOp addR ta tb) := de_op op_addAll sem_add ha hb
theorem de_sub (ha : DE X W a ta) (hb : DE X W b tb) : DE X W (.BinOp a .Sub b pos) (dOp (intR0 fun i j => .int (i - j)) ta tb) := de_op op_sub (sem_intR0 fun _ _ _ => .int _) ha hb
theorem de_mod (ha : DE X W a ta) (hb : DE X W b tb) : DE X W (.BinOp a .Mod b pos) (dOp (intR (fun _ j => 0 < j) fun i j => .int (i % j)) ta tb) := de_op op_mod (sem_intR fun _ _ _ => .int _) ha hb
theorem de_fdiv (ha : DE X W a ta) (hb : DE X W b tb) : DE X W (.BinOp a .FloorDiv b pos) (dOp (intR CDivW fun i j => .int (i / j)) ta tb) := de_op op_fdivW (sem_intR fun _ _ _ => .int _) ha hb
theorem de_pow (ha : DE X W a ta) (hb : DE X W b tb) : DE X W (.BinOp a .Pow b pos) (dOp (intR CPow fun i j => .int (i ^ j.toNat)) ta tb) := de_op op_pow (sem_intR fun _ _ _ => .int _) ha hb
theorem sem_neg : UnSem K (rU fun i => .int (-i)) negR := by
  intro G so H x dx Q R h wx q k
  unfold negR at q
  split at q
  · cases wx; exact ⟨_, rfl, k _ H G _ (.dat h (.int _)) q⟩
  · exact q.elim
theorem de_neg (ha : DE X W a ta) : DE X W (.UnaryOp .USub a pos) (dUn negR ta) := de_un un_neg sem_neg ha

/-! ### * : ints, a list some times -/
@[irreducible] def mulR : DV → DV → (DV → Prop) → Prop
  | .d (.int i), .d (.int j), Q => CMulW i j ∧ Q (.d (.int (i * j)))
  | x, .d (.int k), Q => match x.items with
    | some a => -(2 ^ 63) ≤ k ∧ k < 2 ^ 63 ∧ a.length * k.toNat ≤ szl ∧ Q (.own (.lst (List.replicate k.toNat a).flatten))
    | _ => False
  | _, _, _ => False
/-! ### comparisons -/
@[irreducible] def eqDeep (neg : Bool) : DV → DV → (DV → Prop) → Prop := fun x y Q => match x.dat, y.dat with
  | some a, some b => match a.py, b.py with
    | some p, some q => SeqAt.shaped p = true ∧ SeqAt.shaped q = true ∧ Q (.d (.bl (if neg then !PyData.eqv p q else PyData.eqv p q)))
    | _, _ => False
  | _, _ => False
@[irreducible] def eqR (neg : Bool) : DV → DV → (DV → Prop) → Prop
  | .d (.int i), .d (.int j), Q => Q (.d (.bl (if neg then !decide (i = j) else decide (i = j))))
  | .d (.str i), .d (.str j), Q => Q (.d (.bl (if neg then !decide (i = j) else decide (i = j))))
  | .d (.bl i), .d (.bl j), Q => Q (.d (.bl (if neg then !decide (i = j) else decide (i = j))))
  | x, y, Q => eqDeep neg x y Q
def rEqAll (K : PySem.W.Frag) : R2 := fun x y H Q => rEq x y H Q ∨ rEqD K x y H Q
def rNeAll (K : PySem.W.Frag) : R2 := fun x y H Q => rNe x y H Q ∨ rNeD K x y H Q
theorem op_eqAll (hu : X.A.units + 64 < cLine) : OpR X (compareOp .Eq) (rEqAll X.K) := OpR.or op_eq (op_eqD hu)
theorem op_neAll (hu : X.A.units + 64 < cLine) : OpR X (compareOp .NotEq) (rNeAll X.K) := OpR.or op_ne (op_neD hu)
theorem decI {i j : Int} : decide (V.int i = V.int j) = decide (i = j) := by
  by_cases h : i = j
  · subst h; simp
  · simp [h]
theorem decS {i j : Str} : decide (V.str i = V.str j) = decide (i = j) := by
  by_cases h : i = j
  · subst h; simp
  · simp [h]
theorem decB {i j : Bool} : decide (V.bl i = V.bl j) = decide (i = j) := by
  by_cases h : i = j
  · subst h; simp
  · simp [h]
theorem sem_eq : OpSem K (rEqAll K) (eqR false) := by
  intro G so H x y dx dy Q R h wx wy q k
  unfold eqR at q
  split at q
  · cases wx; cases wy
    exact .inl ⟨rfl, by rw [decI]; exact k _ H G _ (.dat h (.bl _)) q⟩
  · cases wx; cases wy
    exact .inl ⟨rfl, by rw [decS]; exact k _ H G _ (.dat h (.bl _)) q⟩
  · cases wx; cases wy
    exact .inl ⟨rfl, by rw [decB]; exact k _ H G _ (.dat h (.bl _)) q⟩
  · unfold eqDeep at q
    split at q
    · rename_i d e e1 e2
      split at q
      · rename_i p p' e3 e4
        exact .inr ⟨p, p', wx.dp h e1 e3, wy.dp h e2 e4, q.1, q.2.1, k _ H G _ (.dat h (.bl _)) q.2.2⟩
      · exact q.elim
    · exact q.elim
theorem sem_ne : OpSem K (rNeAll K) (eqR true) := by
  intro G so H x y dx dy Q R h wx wy q k
  unfold eqR at q
  split at q
  · cases wx; cases wy
    exact .inl ⟨rfl, by rw [decI]; exact k _ H G _ (.dat h (.bl _)) q⟩
  · cases wx; cases wy
    exact .inl ⟨rfl, by rw [decS]; exact k _ H G _ (.dat h (.bl _)) q⟩
  · cases wx; cases wy
    exact .inl ⟨rfl, by rw [decB]; exact k _ H G _ (.dat h (.bl _)) q⟩
  · unfold eqDeep at q
    split at q
    · rename_i d e e1 e2
      split at q
      · rename_i p p' e3 e4
        exact .inr ⟨p, p', wx.dp h e1 e3, wy.dp h e2 e4, q.1, q.2.1, k _ H G _ (.dat h (.bl _)) q.2.2⟩
      · exact q.elim
    · exact q.elim
end
end DL

set_option Elab.async false
set_option linter.all false
set_option maxRecDepth 100000
set_option autoImplicit false
set_option maxHeartbeats 2000000
namespace DL
open PySem PySem.Spec PyProof.Rows L2

/-- both ways of a test -/
@[irreducible] def Br (b : Bool) (A B : Prop) : Prop := (b = true → A) ∧ (b = false → B)

theorem brt {A B : Prop} (h : Br true A B) : A := by
  unfold Br at h; exact h.1 rfl
theorem brf {A B : Prop} (h : Br false A B) : B := by
  unfold Br at h; exact h.2 rfl
theorem br {b : Bool} {A B : Prop} (h1 : b = true → A) (h2 : b = false → B) : Br b A B := by
  unfold Br; exact ⟨h1, h2⟩
theorem brT {A B : Prop} (h : A) : Br true A B := br (fun _ => h) fun z => (nomatch z)
theorem brF {A B : Prop} (h : B) : Br false A B := br (fun z => (nomatch z)) fun _ => h

/-! ### statements: the slots may change -/
structure PostS (K : PySem.W.Frag) (G : Hp) (so : So) (σ : L2.St) (H : Hp) (sl : DSt) (σ' : L2.St) (H' G' : Hp) (sl' : DSt) : Prop where
  ex : Ex G G'
  rep : Rep K G' so σ' H' sl'
  keep : ∀ a o, H a = some o → so.Nt a → ¬ Own sl σ a → H' a = some o
  frm : ∀ a, H a ≠ none → G a = none → so.Nt a → ¬ Own sl σ a → G' a = none
  sub : ∀ a, H a ≠ none → so.Nt a → ¬ Own sl σ a → ¬ Own sl' σ' a
  ln : σ'.length = σ.length
structure PostR (K : PySem.W.Frag) (G : Hp) (so : So) (σ : L2.St) (H : Hp) (sl : DSt) (v : V) (H' G' : Hp) (dv : DV) : Prop where
  ex : Ex G G'
  hrep : HRep K G' so H'
  keep : ∀ a o, H a = some o → so.Nt a → ¬ Own sl σ a → H' a = some o
  frm : ∀ a, H a ≠ none → G a = none → so.Nt a → ¬ Own sl σ a → G' a = none
  val : VOk K G' so H' v dv
  new : ∀ a o, dv = .own o → v = .ref a → H a = none ∨ Own sl σ a
def XOkS (K : PySem.W.Frag) (W : WX) (G : Hp) (so : So) (σ : L2.St) (H : Hp) (sl : DSt) (E : XP) : Prop :=
  ∀ cls d σ' H' G' fs sl', PostS K G so σ H sl σ' H' G' sl' → XdOk K G' H' d fs → E cls fs sl' → W cls d σ' H'

section
variable {K : PySem.W.Frag} {W : WX} {G G1 G2 : Hp} {so : So} {σ σ1 σ2 : L2.St} {H H1 H2 : Hp} {sl s1 s2 : DSt} {v x y : V} {dv dx dy : DV} {E : XP}
theorem Post.s (p : Post K G so σ H sl H1 G1 s1) : PostS K G so σ H sl σ H1 G1 s1 := ⟨p.ex, p.rep, fun a o e s _ => p.keep a o e s, p.frm, fun a _ _ w z => w (p.sub a z), rfl⟩
theorem PostS.refl (r : Rep K G so σ H sl) : PostS K G so σ H sl σ H G sl := (Post.refl r).s
theorem PostS.trans (a : PostS K G so σ H sl σ1 H1 G1 s1) (b : PostS K G1 so σ1 H1 s1 σ2 H2 G2 s2) : PostS K G so σ H sl σ2 H2 G2 s2 :=
  ⟨a.ex.trans b.ex, b.rep, fun c o e s w => b.keep c o (a.keep c o e s w) s (a.sub c (by rw [e]; simp) s w), fun c n g s w => by
    obtain ⟨o, e⟩ := Option.ne_none_iff_exists'.mp n
    exact b.frm c (by rw [a.keep c o e s w]; simp) (a.frm c n g s w) s (a.sub c n s w), fun c n s w => by
    obtain ⟨o, e⟩ := Option.ne_none_iff_exists'.mp n
    exact b.sub c (by rw [a.keep c o e s w]; simp) s (a.sub c n s w), b.ln.trans a.ln⟩
theorem PostS.back (a : PostS K G so σ H sl σ1 H1 G1 s1) {c : Addr} (n : H1 c = none ∨ Own s1 σ1 c) : H c = none ∨ Own sl σ c := by
  by_cases w : Own sl σ c
  · exact .inr w
  · refine .inl ?_
    cases z : H c with
    | none => rfl
    | some u =>
      by_cases s : so.Vol c
      · rcases n with n | n
        · exact absurd s (a.rep.h.there n)
        · exact absurd s (a.rep.nown n).2.2
      · rcases n with n | n
        · rw [a.keep c u z s w] at n; cases n
        · exact absurd n (a.sub c (by rw [z]; simp) s w)
theorem PostS.thenE (a : PostS K G so σ H sl σ1 H1 G1 s1) (b : PostE K G1 so σ1 H1 s1 v H2 G2 dv s2) : PostR K G so σ H sl v H2 G2 dv := by
  have t := a.trans b.toPost.s
  exact ⟨t.ex, t.rep.h, t.keep, t.frm, b.val, fun c o e q => a.back (b.new c o e q)⟩
theorem PostS.thenR (a : PostS K G so σ H sl σ1 H1 G1 s1) (b : PostR K G1 so σ1 H1 s1 v H2 G2 dv) : PostR K G so σ H sl v H2 G2 dv :=
  ⟨a.ex.trans b.ex, b.hrep, fun c o e s w => b.keep c o (a.keep c o e s w) s (a.sub c (by rw [e]; simp) s w), fun c n g s w => by
    obtain ⟨o, e⟩ := Option.ne_none_iff_exists'.mp n
    exact b.frm c (by rw [a.keep c o e s w]; simp) (a.frm c n g s w) s (a.sub c n s w), b.val, fun c o e q => a.back (b.new c o e q)⟩
theorem XOkS.ex (h : XOkS K W G so σ H sl E) : XOk K W G so σ H sl E := fun cls d H' G' fs sl' q a b => h cls d σ H' G' fs sl' q.s a b
theorem XOkS.step (h : XOkS K W G so σ H sl E) (p : PostS K G so σ H sl σ1 H1 G1 s1) : XOkS K W G1 so σ1 H1 s1 E := fun cls d σ' H' G' fs sl' q a b => h cls d σ' H' G' fs sl' (p.trans q) a b
end

/-- what is wanted behind a statement, below and above -/
structure EOk (K : PySem.W.Frag) (W : WX) (G : Hp) (so : So) (σ : L2.St) (H : Hp) (sl : DSt) (E : EndsD) (D : Ends) : Prop where
  nx : ∀ σ' H' G' sl', PostS K G so σ H sl σ' H' G' sl' → E.nx sl' → D.nx σ' H'
  bk : ∀ σ' H' G' sl', PostS K G so σ H sl σ' H' G' sl' → E.bk sl' → D.bk σ' H'
  ct : ∀ σ' H' G' sl', PostS K G so σ H sl σ' H' G' sl' → E.ct sl' → D.ct σ' H'
  rt : ∀ v H' G' dv, PostR K G so σ H sl v H' G' dv → E.rt dv → D.rt v H'
  xc : XOkS K W G so σ H sl E.xc
theorem EOk.step {K : PySem.W.Frag} {W : WX} {G G1 : Hp} {so : So} {σ σ1 : L2.St} {H H1 : Hp} {sl s1 : DSt} {E : EndsD} {D : Ends} (h : EOk K W G so σ H sl E D) (p : PostS K G so σ H sl σ1 H1 G1 s1) : EOk K W G1 so σ1 H1 s1 E D :=
  ⟨fun a b c d q => h.nx a b c d (p.trans q), fun a b c d q => h.bk a b c d (p.trans q), fun a b c d q => h.ct a b c d (p.trans q), fun a b c d q => h.rt a b c d (p.thenR q), h.xc.step p⟩
def upS (K : PySem.W.Frag) (W : WX) (t : TDS) : TS := fun D σ H => ∃ G so sl E, Rep K G so σ H sl ∧ t E sl ∧ EOk K W G so σ H sl E D
def DS (X : Cx) (W : WX) (st : Stmt) (t : TDS) : Prop := PS X st (upS X.K W t)
def DSs (X : Cx) (W : WX) (sts : List Stmt) (t : TDS) : Prop := PSs X sts (upS X.K W t)

def dNext : TDS := fun E sl => E.nx sl
def dSeq (t u : TDS) : TDS := fun E sl => t { E with nx := u E } sl
def dBreak : TDS := fun E sl => E.bk sl
def dCont : TDS := fun E sl => E.ct sl
def dSet (te : TD) (i : Nat) : TDS := fun E sl => te sl (fun x s1 => match x with
  | .see _ => False
  | y => E.nx (s1.set i (some y))) E.xc
def dRet (te : TD) : TDS := fun E sl => te sl (fun x _ => E.rt x) E.xc
def dRetN : TDS := fun E _ => E.rt (.d .non)
def dDrop (te : TD) : TDS := fun E sl => te sl (fun _ s1 => E.nx s1) E.xc
def dIf (c : TDT) (t u : TDS) : TDS := fun E sl => c sl (fun b s1 => Br b (t E s1) (u E s1)) E.xc
def dNever : TDS := fun _ _ => False

section
variable {X : Cx} {W : WX} {st : Stmt} {rest body orelse : List Stmt} {t u : TDS} {e c a b : Expr} {te ta tb : TD} {tc td : TDT} {pos : Pos}
theorem ds_nil : DSs X W [] dNext := pss_imp pss_nil fun D σ H ⟨G, so, sl, E, rep, q, ok⟩ => ok.nx σ H G sl (.refl rep) q
theorem ds_cons (h1 : DS X W st t) (h2 : DSs X W rest u) : DSs X W (st :: rest) (dSeq t u) := pss_imp (pss_cons h1 h2) fun D σ H ⟨G, so, sl, E, rep, q, ok⟩ =>
  ⟨G, so, sl, _, rep, q, ⟨fun σ1 H1 G1 s1 p q1 => ⟨G1, so, s1, E, p.rep, q1, ok.step p⟩, ok.bk, ok.ct, ok.rt, ok.xc⟩⟩
theorem ds_one (h1 : DS X W st t) : DSs X W [st] t := pss_one h1
theorem ds_pass : DS X W (.Pass pos) dNext := ps_imp ps_pass fun D σ H ⟨G, so, sl, E, rep, q, ok⟩ => ok.nx σ H G sl (.refl rep) q
theorem ds_break : DS X W (.Break pos) dBreak := ps_imp ps_break fun D σ H ⟨G, so, sl, E, rep, q, ok⟩ => ok.bk σ H G sl (.refl rep) q
theorem ds_continue : DS X W (.Continue pos) dCont := ps_imp ps_continue fun D σ H ⟨G, so, sl, E, rep, q, ok⟩ => ok.ct σ H G sl (.refl rep) q
theorem ds_never : DS X W st dNever := ps_imp ps_never fun D σ H ⟨G, so, sl, E, rep, q, ok⟩ => q
theorem dss_never : DSs X W rest dNever := pss_imp pss_never fun D σ H ⟨G, so, sl, E, rep, q, ok⟩ => q
theorem ds_ret (h : DE X W e te) : DS X W (.Return (some e) pos) (dRet te) := ps_imp (ps_ret h) fun D σ H ⟨G, so, sl, E, rep, q, ok⟩ =>
  ⟨G, so, sl, _, E.xc, rep, q, fun v H1 G1 dv s1 p q1 => ok.rt v H1 G1 dv ((PostS.refl rep).thenE p) q1, ok.xc.ex⟩
theorem ds_retN : DS X W (.Return none pos) dRetN := ps_imp ps_retN fun D σ H ⟨G, so, sl, E, rep, q, ok⟩ => ok.rt .non H G (.d .non) ((PostS.refl rep).thenE (.here rep .non (fun _ z => (nomatch z)) fun _ _ z => (nomatch z))) q
theorem ds_expr (h : DE X W e te) (hs : swapsWith e none pos.line X.env = pure false := by rfl) : DS X W (.Expr e pos) (dDrop te) := ps_imp (ps_expr h hs) fun D σ H ⟨G, so, sl, E, rep, q, ok⟩ =>
  ⟨G, so, sl, _, E.xc, rep, q, fun v H1 G1 dv s1 p q1 => ok.nx σ H1 G1 s1 p.toPost.s q1, ok.xc.ex⟩
theorem ds_if (hc : DT X W c tc) (h1 : DSs X W body t) (h2 : DSs X W orelse u) : DS X W (.If c body orelse pos) (dIf tc t u) := ps_imp (ps_if hc h1 h2) fun D σ H ⟨G, so, sl, E, rep, q, ok⟩ => by
  refine ⟨G, so, sl, _, E.xc, rep, q, fun k H1 G1 s1 p q1 => ?_, ok.xc.ex⟩
  cases k with
  | true => rw [if_pos rfl]; exact ⟨G1, so, s1, E, p.rep, (brt q1), ok.step p.s⟩
  | false => rw [if_neg Bool.false_ne_true]; exact ⟨G1, so, s1, E, p.rep, (brf q1), ok.step p.s⟩
end

/-! ### a slot is set -/
section
variable {K : PySem.W.Frag} {W : WX} {G G1 G2 : Hp} {so : So} {σ σ1 σ2 : L2.St} {H H1 H2 : Hp} {sl s1 s2 : DSt} {v x y : V} {dv dx dy : DV} {E : XP}
theorem get_set {α : Type} {l : List α} {i j : Nat} {x y : α} (h : (l.set i x)[j]? = some y) : (j = i ∧ y = x) ∨ (j ≠ i ∧ l[j]? = some y) := by
  by_cases ji : j = i
  · subst ji
    rw [List.getElem?_set] at h
    split at h
    · split at h
      · cases h; exact .inl ⟨rfl, rfl⟩
      · cases h
    · rename_i k; exact absurd rfl k
  · rw [List.getElem?_set_ne (Ne.symm ji)] at h
    exact .inr ⟨ji, h⟩
theorem set_slot {i : Nat} (hi : i < σ.length) (ns : ∀ o, dv ≠ .see o) (rep : Rep K G so σ H sl) (w : VOk K G so H v dv) (n : ∀ a o, dv = .own o ∨ dv = .bor o → v = .ref a → ¬ Own sl σ a) (nb : ∀ (a : Addr) (o : OO) (i' : Nat) (o' : OO), dv = .own o → v = .ref a → sl[i']? = some (some (.bor o')) → σ[i']? = some (some (.ref a)) → False) (new : ∀ a o, dv = .own o → v = .ref a → H1 a = none ∨ Own s1 σ1 a)
    (sub : ∀ a, H1 a ≠ none → so.Nt a → ¬ Own s1 σ1 a → ¬ Own sl σ a) :
    Rep K G so (σ.set i (some v)) H (sl.set i (some dv)) ∧ ∀ a, H1 a ≠ none → so.Nt a → ¬ Own s1 σ1 a → ¬ Own (sl.set i (some dv)) (σ.set i (some v)) a := by
  have hl : i < sl.length := by rw [rep.len]; exact hi
  have self : (σ.set i (some v))[i]? = some (some v) := List.getElem?_set_self hi
  have other : ∀ {j : Nat}, j ≠ i → (σ.set i (some v))[j]? = σ[j]? := fun ne => List.getElem?_set_ne (Ne.symm ne)
  refine ⟨⟨rep.h, by rw [List.length_set, List.length_set]; exact rep.len, fun j d q => ?_, fun j k o o' a q1 q2 q3 q4 => ?_, fun j o a q1 q2 z => ?_, fun j o z => ?_⟩, fun a n1 sa w1 z => ?_⟩
  · rcases get_set q with ⟨rfl, e⟩ | ⟨ne, e⟩
    · cases e; exact ⟨v, self, w⟩
    · obtain ⟨w', e1, e2⟩ := rep.slots j d e
      exact ⟨w', by rw [other ne]; exact e1, e2⟩
  · rcases get_set q1 with ⟨rfl, e1⟩ | ⟨ne1, e1⟩
    · cases e1
      rw [self] at q3; cases q3
      rcases get_set q2 with ⟨rfl, e2⟩ | ⟨ne2, e2⟩
      · rfl
      · rw [other ne2] at q4
        exact absurd ⟨k, o', e2, q4⟩ (n a o (.inl rfl) rfl)
    · rw [other ne1] at q3
      rcases get_set q2 with ⟨rfl, e2⟩ | ⟨ne2, e2⟩
      · cases e2
        rw [self] at q4; cases q4
        exact absurd ⟨j, o, e1, q3⟩ (n a o' (.inl rfl) rfl)
      · rw [other ne2] at q4
        exact rep.sep j k o o' a e1 e2 q3 q4
  · obtain ⟨m, o', e1, e2⟩ := z
    rcases get_set q1 with ⟨rfl, f1⟩ | ⟨ne1, f1⟩
    · cases f1
      rw [self] at q2; cases q2
      rcases get_set e1 with ⟨rfl, f2⟩ | ⟨ne2, f2⟩
      · cases f2
      · rw [other ne2] at e2
        exact n a o (.inr rfl) rfl ⟨m, o', f2, e2⟩
    · rw [other ne1] at q2
      rcases get_set e1 with ⟨rfl, f2⟩ | ⟨ne2, f2⟩
      · cases f2
        rw [self] at e2; cases e2
        exact nb a o' j o rfl rfl f1 q2
      · rw [other ne2] at e2
        exact rep.bor j o a f1 q2 ⟨m, o', f2, e2⟩
  · rcases get_set z with ⟨rfl, e⟩ | ⟨ne, e⟩
    · cases e; exact ns o rfl
    · exact rep.nse j o e
  · obtain ⟨j, o, e1, e2⟩ := z
    rcases get_set e1 with ⟨rfl, e⟩ | ⟨ne, e⟩
    · cases e
      rw [self] at e2; cases e2
      rcases new a o rfl rfl with k | k
      · exact n1 k
      · exact w1 k
    · rw [other ne] at e2
      exact sub a n1 sa w1 ⟨j, o, e, e2⟩
theorem PostE.set {i : Nat} (hi : i < σ.length) (ns : ∀ o, dv ≠ .see o) (p : PostE K G so σ H sl v H1 G1 dv s1) : PostS K G so σ H sl (σ.set i (some v)) H1 G1 (s1.set i (some dv)) := by
  have bf : ∀ (a : Addr) (o : OO) (i' : Nat) (o' : OO), dv = .own o → v = .ref a → s1[i']? = some (some (.bor o')) → σ[i']? = some (some (.ref a)) → False := fun a o i' o' e q e1 e2 => p.nbs a o i' o' e q e1 e2
  obtain ⟨r, s⟩ := set_slot (H1 := H) (s1 := sl) (σ1 := σ) hi ns p.rep p.val (fun a o e q => p.sepv a o e q) bf (fun a o e q => p.new a o e q) fun a _ _ w z => w (p.sub a z)
  exact ⟨p.ex, r, fun a o e sa _ => p.keep a o e sa, p.frm, s, List.length_set⟩
end
section
variable {X : Cx} {W : WX} {e : Expr} {te : TD} {pos pos' : Pos} {i : Nat} {x : Str}
theorem up_set {K : PySem.W.Frag} {D : Ends} {σ : L2.St} {H : Hp} (hi : ∀ {G so sl}, Rep K G so σ H sl → i < σ.length) (h : upS K W (dSet te i) D σ H) : tAsg (up K W te) (gName i) D σ H := by
  obtain ⟨G, so, sl, E, rep, q, ok⟩ := h
  refine ⟨G, so, sl, _, E.xc, rep, q, fun v H1 G1 dv s1 p q1 => ?_, ok.xc.ex⟩
  split at q1
  · exact q1.elim
  · rename_i ns
    exact ok.nx _ H1 G1 _ (p.set (hi rep) fun o z => ns o z) q1
/-- the slots are as many as the names -/
theorem ps_len {st : Stmt} {t t' : TS} (h : PS X st t) (f : ∀ D σ H, σ.length = X.N.length → t' D σ H → t D σ H) : PS X st t' := ⟨fun pins s σ H Q I q => h.run pins s σ H Q I (f _ _ _ I.len q)⟩
theorem ds_set (hN : X.N.Nodup) (hi : X.N[i]? = some x) (hx : Loc X.env.scope x) (he : DE X W e te) (hs : swapsWith e (some (.Name x pos')) pos.line X.env = pure false := by rfl) (hf : X.fn x = true ∨ X.env.scope.names.lookup x = some .local := by first | exact .inl rfl | exact .inr rfl | assumption) :
    DS X W (.Assign [.Name x pos'] e pos) (dSet te i) := ps_len (ps_set hN hi hx he hs hf) fun D σ H hl h => up_set (fun _ => by rw [hl]; exact (List.getElem?_eq_some_iff.mp hi).1) h
end
end DL

set_option Elab.async false
set_option linter.all false
set_option maxRecDepth 100000
set_option autoImplicit false
set_option maxHeartbeats 2000000
namespace DL
open PySem PySem.Spec PyProof.Rows L2

/-! ### tests -/
@[irreducible] def truR : DV → (Bool → Prop) → Prop
  | .d (.bl b), Q => Q b
  | .d .non, Q => Q false
  | .d (.int i), Q => Q (i != 0)
  | .d (.str x), Q => x.length ≤ szl ∧ Q ((x.length : Int) != 0)
  | .d (.tup ds), Q => Q (!ds.isEmpty)
  | v, Q => match v.items with
    | some ds => Q (!ds.isEmpty)
    | none => False
def dTru (te : TD) : TDT := fun sl Q E => te sl (fun x s1 => truR x fun b => Q b s1) E
def dTest (te : TD) : TDT := fun sl Q E => te sl (fun x s1 => match x with
  | .d (.bl b) => Q b s1
  | _ => False) E
def dAnd (t u : TDT) : TDT := fun sl Q E => t sl (fun b s1 => Br b (u s1 Q E) (Q false s1)) E
def dOr (t u : TDT) : TDT := fun sl Q E => t sl (fun b s1 => Br b (Q true s1) (u s1 Q E)) E
def dNot (t : TDT) : TDT := fun sl Q E => t sl (fun b s1 => Q (!b) s1) E
def dIfE (t : TDT) (ta tb : TD) : TD := fun sl Q E => t sl (fun b s1 => Br b (ta s1 Q E) (tb s1 Q E)) E
def dAndV (ta tb : TD) : TD := fun sl Q E => ta sl (fun x s1 => match x with
  | .d (.bl b) => Br b (tb s1 Q E) (Q (.d (.bl false)) s1)
  | _ => False) E
def dOrV (ta tb : TD) : TD := fun sl Q E => ta sl (fun x s1 => match x with
  | .d (.bl b) => Br b (Q (.d (.bl true)) s1) (tb s1 Q E)
  | _ => False) E
def dNotV (ta : TD) : TD := fun sl Q E => ta sl (fun x s1 => truR x fun b => Q (.d (.bl (!b))) s1) E
theorem isEmpty_all {K : PySem.W.Frag} {G : Hp} {vs : List V} {ds : List D} (a : DAll K G vs ds) : vs.isEmpty = ds.isEmpty := by
  cases a <;> rfl
theorem tru_ok {K : PySem.W.Frag} {G : Hp} {so : So} {H : Hp} {v : V} {dv : DV} {Q : Bool → Prop} (h : HRep K G so H) (w : VOk K G so H v dv) (q : truR dv Q) : ∃ k, TruV K v H k ∧ Q k := by
  unfold truR at q
  split at q
  · cases w; exact ⟨_, rfl, q⟩
  · cases w; exact ⟨_, rfl, q⟩
  · cases w; exact ⟨_, rfl, q⟩
  · cases w; exact ⟨_, ⟨by rw [← szl_eq]; exact q.1, rfl⟩, q.2⟩
  · obtain ⟨a, vs, rfl, g1, a1⟩ := VOk.tup h w
    exact ⟨_, .inr (.inl ⟨vs, g1, rfl⟩), by rw [isEmpty_all a1]; exact q⟩
  · split at q
    · rename_i e
      obtain ⟨a, vs, rfl, g1, a1⟩ := VOk.list h w e
      exact ⟨_, .inl ⟨vs, SqL.of g1, rfl⟩, by rw [isEmpty_all a1]; exact q⟩
    · exact q.elim

section
variable {X : Cx} {W : WX} {e c a b : Expr} {rest : List Expr} {te ta tb tc : TD} {t u : TDT} {pos : Pos} {K : PySem.W.Frag} {σ : L2.St} {H : Hp}
theorem dt_val (h : DE X W e te) (he : ∀ whole, isTrue e X.env whole = (do let v ← whole; standAt e.pos; holding [v] (truthy v)) := by intro _; rfl) : DT X W e (dTru te) :=
  pt_imp (pt_truth h he) fun σ H R ⟨G, so, sl, Q, E, rep, q, hq, hx⟩ => ⟨G, so, sl, _, E, rep, q, fun v H1 G1 dv s1 p q1 => by
    obtain ⟨k, tv, qk⟩ := tru_ok p.rep.h p.val q1
    exact ⟨k, tv, hq k H1 G1 s1 p.toPost qk⟩, hx⟩
theorem up_test {te : TD} {R : Bool → Hp → Prop} (h : upT K W (dTest te) σ H R) : tTest (up K W te) σ H R := by
  obtain ⟨G, so, sl, Q, E, rep, q, hq, hx⟩ := h
  refine ⟨G, so, sl, _, E, rep, q, fun v H1 G1 dv s1 p q1 => ?_, hx⟩
  split at q1
  · have w := p.val
    cases w
    exact ⟨_, rfl, hq _ H1 G1 s1 p.toPost q1⟩
  · exact q1.elim
theorem up_test' {tE : TE} {te : TD} {R : Bool → Hp → Prop} (f : ∀ R, up K W te σ H R → tE σ H R) (h : upT K W (dTest te) σ H R) : tTest tE σ H R := f _ (up_test h)
theorem dt_cmp {op : CmpOp} {r : R2} {rd : DV → DV → (DV → Prop) → Prop} (ho : OpR X (compareOp op) r) (hr : OpSem X.K r rd) (ha : DE X W a ta) (hb : DE X W b tb) (hm : behindInMarks op b = false) : DT X W (.Compare a [op] [b] pos) (dTest (dOp rd ta tb)) :=
  pt_imp (pt_cmpR ho ha hb hm) fun _ _ _ h => up_test' (fun _ h => up_op hr h) h
/-- a op b op' c -/
def dChain (rd rd' : DV → DV → (DV → Prop) → Prop) (ta tb tc : TD) : TD := fun sl Q E => ta sl (fun x s1 => tb s1 (fun y s2 => rd x y fun z => match z with
  | .d (.bl b) => Br b (tc s2 (fun w s3 => rd' y w fun z' => Q z' s3) E) (Q (.d (.bl false)) s2)
  | _ => False) E) E
theorem PostV.nop {G G1 H1 : Hp} {so : So} {v : V} {dv : DV} {sl : DSt} (p : PostV K G so H v H1 G1 dv) (rep : Rep K G so σ H sl) : Post K G so σ H sl H1 G1 sl := (p.slots rep).toPost
theorem up_chain {r r' : R2} {rd rd' : DV → DV → (DV → Prop) → Prop} {R : VK} (hr : OpSem K r rd) (hr' : OpSem K r' rd') (h : up K W (dChain rd rd' ta tb tc) σ H R) : tChain r r' (up K W ta) (up K W tb) (up K W tc) σ H R := by
  obtain ⟨G, so, sl, Q, E, rep, q, hq, hx⟩ := h
  refine ⟨G, so, sl, _, E, rep, q, fun x H1 G1 dx s1 p1 h1 => ?_, hx⟩
  refine ⟨G1, so, s1, _, E, p1.rep, h1, fun y H2 G2 dy s2 p2 h2 => ?_, hx.step p1.toPost⟩
  have p12 := p1.toPost.trans p2.toPost
  refine hr G2 so H2 x y dx dy _ _ p2.rep.h (p1.over p2.toPost) p2.val h2 fun v H3 G3 dv pv hz => ?_
  split at hz
  · have w := pv.val
    cases w
    rename_i b
    have p3 := pv.nop p2.rep
    refine ⟨_, rfl, ?_⟩
    cases b with
    | true =>
      rw [if_pos rfl]
      refine ⟨G3, so, s2, _, E, p3.rep, (brt hz), fun w H4 G4 dw s4 p4 h4 => ?_, (hx.step p12).step p3⟩
      exact hr' G4 so H4 y w dy dw _ R p4.rep.h (p2.over (p3.trans p4.toPost)) p4.val h4 fun v' H' G' dv' pv' hz' => hq v' H' G' dv' s4 ((p12.trans (p3.trans p4.toPost)).thenV pv') hz'
    | false =>
      rw [if_neg Bool.false_ne_true]
      exact hq _ H3 G3 _ s2 (p12.thenV pv) ((brf hz))
  · exact hz.elim
theorem de_chain {op op' : CmpOp} {r r' : R2} {rd rd' : DV → DV → (DV → Prop) → Prop} (ho : OpR X (compareOp op) r) (hr : OpSem X.K r rd) (ho' : OpR X (compareOp op') r') (hr' : OpSem X.K r' rd') (ha : DE X W a ta) (hb : DE X W b tb) (hc : DE X W c tc)
    (hm : lastMarks [op, op'] [b, c] = false := by with_unfolding_all rfl) : DE X W (.Compare a [op, op'] [b, c] pos) (dChain rd rd' ta tb tc) := pe_imp (pe_chain ho ho' ha hb hc hm) fun _ _ _ h => up_chain hr hr' h
theorem dt_chain {op op' : CmpOp} {r r' : R2} {rd rd' : DV → DV → (DV → Prop) → Prop} (ho : OpR X (compareOp op) r) (hr : OpSem X.K r rd) (ho' : OpR X (compareOp op') r') (hr' : OpSem X.K r' rd') (ha : DE X W a ta) (hb : DE X W b tb) (hc : DE X W c tc)
    (hm : lastMarks [op, op'] [b, c] = false := by with_unfolding_all rfl) : DT X W (.Compare a [op, op'] [b, c] pos) (dTest (dChain rd rd' ta tb tc)) := pt_imp (pt_chain ho ho' ha hb hc hm) fun _ _ _ h => up_test' (fun _ h => up_chain hr hr' h) h
/-- and, or: a chain of tests -/
def DW (X : Cx) (W : WX) (e : Expr) (t : TDT) : Prop := PW X e (upT X.K W t)
theorem DW.dt (h : DW X W e t) : DT X W e t := PW.pt h
theorem dw_and1 (h : DT X W a t) : DW X W (.BoolOp .And [a] pos) t := pw_and1 h
theorem dw_or1 (h : DT X W a t) : DW X W (.BoolOp .Or [a] pos) t := pw_or1 h
theorem dw_and (h : DT X W a t) (h2 : DW X W (.BoolOp .And (b :: rest) pos) u) : DW X W (.BoolOp .And (a :: b :: rest) pos) (dAnd t u) := pw_imp (pw_and h h2) fun σ H R ⟨G, so, sl, Q, E, rep, q, hq, hx⟩ =>
  ⟨G, so, sl, _, E, rep, q, fun k H1 G1 s1 p q1 => by
    cases k with
    | true => rw [if_pos rfl]; exact ⟨G1, so, s1, Q, E, p.rep, (brt q1), fun k' H2 G2 s2 p2 q2 => hq k' H2 G2 s2 (p.trans p2) q2, hx.step p⟩
    | false => rw [if_neg Bool.false_ne_true]; exact hq false H1 G1 s1 p ((brf q1)), hx⟩
theorem dw_or (h : DT X W a t) (h2 : DW X W (.BoolOp .Or (b :: rest) pos) u) : DW X W (.BoolOp .Or (a :: b :: rest) pos) (dOr t u) := pw_imp (pw_or h h2) fun σ H R ⟨G, so, sl, Q, E, rep, q, hq, hx⟩ =>
  ⟨G, so, sl, _, E, rep, q, fun k H1 G1 s1 p q1 => by
    cases k with
    | true => rw [if_pos rfl]; exact hq true H1 G1 s1 p ((brt q1))
    | false => rw [if_neg Bool.false_ne_true]; exact ⟨G1, so, s1, Q, E, p.rep, (brf q1), fun k' H2 G2 s2 p2 q2 => hq k' H2 G2 s2 (p.trans p2) q2, hx.step p⟩, hx⟩
theorem dt_not (h : DT X W a t) : DT X W (.UnaryOp .Not a pos) (dNot t) := pt_imp (pt_not h) fun σ H R ⟨G, so, sl, Q, E, rep, q, hq, hx⟩ => ⟨G, so, sl, _, E, rep, q, fun k H1 G1 s1 p q1 => hq (!k) H1 G1 s1 p q1, hx⟩
theorem de_ifE (hc : DT X W c t) (ha : DE X W a ta) (hb : DE X W b tb) : DE X W (.IfExp c a b pos) (dIfE t ta tb) := pe_imp (pe_ifExp hc ha hb) fun σ H R ⟨G, so, sl, Q, E, rep, q, hq, hx⟩ =>
  ⟨G, so, sl, _, E, rep, q, fun k H1 G1 s1 p q1 => by
    cases k with
    | true => rw [if_pos rfl]; exact ⟨G1, so, s1, Q, E, p.rep, (brt q1), fun v H2 G2 dv s2 p2 q2 => hq v H2 G2 dv s2 (p.thenE p2) q2, hx.step p⟩
    | false => rw [if_neg Bool.false_ne_true]; exact ⟨G1, so, s1, Q, E, p.rep, (brf q1), fun v H2 G2 dv s2 p2 q2 => hq v H2 G2 dv s2 (p.thenE p2) q2, hx.step p⟩, hx⟩
theorem de_one {op : BoolOp} (h : DE X W a ta) : DE X W (.BoolOp op [a] pos) ta := pe_one h
theorem de_and (ha : DE X W a ta) (hb : DE X W (.BoolOp .And (b :: rest) pos) tb) : DE X W (.BoolOp .And (a :: b :: rest) pos) (dAndV ta tb) := pe_imp (pe_and ha hb) fun σ H R ⟨G, so, sl, Q, E, rep, q, hq, hx⟩ =>
  ⟨G, so, sl, _, E, rep, q, fun v H1 G1 dv s1 p q1 => by
    split at q1
    · have w := p.val
      cases w
      rename_i k
      refine ⟨_, rfl, ?_⟩
      cases k with
      | true => rw [if_pos rfl]; exact ⟨G1, so, s1, Q, E, p.rep, (brt q1), fun v H2 G2 dv s2 p2 q2 => hq v H2 G2 dv s2 (p.toPost.thenE p2) q2, hx.step p.toPost⟩
      | false => rw [if_neg Bool.false_ne_true]; exact hq _ H1 G1 _ s1 p ((brf q1))
    · exact q1.elim, hx⟩
theorem de_or (ha : DE X W a ta) (hb : DE X W (.BoolOp .Or (b :: rest) pos) tb) : DE X W (.BoolOp .Or (a :: b :: rest) pos) (dOrV ta tb) := pe_imp (pe_or ha hb) fun σ H R ⟨G, so, sl, Q, E, rep, q, hq, hx⟩ =>
  ⟨G, so, sl, _, E, rep, q, fun v H1 G1 dv s1 p q1 => by
    split at q1
    · have w := p.val
      cases w
      rename_i k
      refine ⟨_, rfl, ?_⟩
      cases k with
      | true => rw [if_pos rfl]; exact hq _ H1 G1 _ s1 p ((brt q1))
      | false => rw [if_neg Bool.false_ne_true]; exact ⟨G1, so, s1, Q, E, p.rep, (brf q1), fun v H2 G2 dv s2 p2 q2 => hq v H2 G2 dv s2 (p.toPost.thenE p2) q2, hx.step p.toPost⟩
    · exact q1.elim, hx⟩
theorem de_not (ha : DE X W a ta) : DE X W (.UnaryOp .Not a pos) (dNotV ta) := pe_imp (pe_notT ha) fun σ H R ⟨G, so, sl, Q, E, rep, q, hq, hx⟩ => ⟨G, so, sl, _, E, rep, q, fun v H1 G1 dv s1 p q1 => by
    obtain ⟨k, tv, qk⟩ := tru_ok p.rep.h p.val q1
    exact ⟨k, tv, hq _ H1 G1 _ s1 (p.toPost.thenV (.dat p.rep.h (.bl _))) qk⟩, hx⟩

/-! ### displays -/
def dats : List DV → Option (List D)
  | [] => some []
  | .d x :: r => (dats r).map (x :: ·)
  | _ => none
theorem dats_all {G : Hp} {so : So} : ∀ {vs : List V} {ds : List DV} {xs : List D}, VsOk K G so H vs ds → dats ds = some xs → DAll K G vs xs
  | _, _, _, .nil, e => by cases e; exact .nil
  | _, _, _, .cons (d := .d x) h n t, e => by
    unfold dats at e
    rename_i ds0
    cases z : dats ds0 with
    | none => rw [z] at e; cases e
    | some ys => rw [z] at e; cases e; exact .cons h (dats_all t z)
  | _, _, _, .cons (d := .src) h n t, e => by cases e
  | _, _, _, .cons (d := .own o) h n t, e => by cases e
  | _, _, _, .cons (d := .bor o) h n t, e => by cases e
  | _, _, _, .cons (d := .see o) h n t, e => by cases e
@[irreducible] def tupR (xs : List DV) (Q : DV → Prop) : Prop := match dats xs with
  | some ds => ds.length ≤ szl ∧ Q (.d (.tup ds))
  | none => False
@[irreducible] def lstR (xs : List DV) (Q : DV → Prop) : Prop := match dats xs with
  | some ds => ds.length ≤ szl ∧ Q (.own (.lst ds))
  | none => False
theorem de_tup {es : List Expr} {ta : TDA} {k : Nat} (h : DA X W es ta) : DE X W (.Tuple es k pos) (dCB tupR ta) := pe_imp (pe_tup h) fun σ H R ⟨G, so, sl, Q, E, rep, q, hq, hx⟩ =>
  ⟨G, so, sl, _, E, rep, q, fun vs H1 G1 ds s1 p w q1 => by
    unfold tupR at q1
    split at q1
    · rename_i xs e
      have a := dats_all w e
      exact ⟨by rw [a.length, ← szl_eq]; exact q1.1, fun l n => hq _ _ _ _ s1 (p.thenV (.tuple p.rep.h n a)) q1.2⟩
    · exact q1.elim, hx⟩
theorem de_lst {es : List Expr} {ta : TDA} (h : DA X W es ta) : DE X W (.List es pos) (dCB lstR ta) := pe_imp (pe_lst h) fun σ H R ⟨G, so, sl, Q, E, rep, q, hq, hx⟩ =>
  ⟨G, so, sl, _, E, rep, q, fun vs H1 G1 ds s1 p w q1 => by
    unfold lstR at q1
    split at q1
    · rename_i xs e
      have a := dats_all w e
      exact ⟨by rw [a.length, ← szl_eq]; exact q1.1, fun l n => hq _ _ _ _ s1 (p.thenV (.list p.rep.h n a)) q1.2⟩
    · exact q1.elim, hx⟩
end
end DL

set_option Elab.async false
set_option linter.all false
set_option maxRecDepth 100000
set_option autoImplicit false
set_option maxHeartbeats 2000000
namespace DL
open PySem PySem.Spec PyProof.Rows L2

/-! ### targets -/
abbrev TDG := D → DSt → (DSt → Prop) → Prop
abbrev TDGs := List D → DSt → (DSt → Prop) → Prop
def GSem (K : PySem.W.Frag) (n : Nat) (ix : List Nat) (g : TG) (gd : TDG) : Prop := ∀ (G : Hp) (so : So) (σ : L2.St) (H : Hp) (sl : DSt) (v : V) (d : D) (Q : DSt → Prop) (R : L2.St → Hp → Prop), σ.length = n → Rep K G so σ H sl → DOk K G v d → gd d sl Q →
  (∀ σ' sl', PostS K G so σ H sl σ' H G sl' → (∀ j, j ∉ ix → σ'[j]? = σ[j]? ∧ sl'[j]? = sl[j]?) → Q sl' → R σ' H) → g v σ H R
def GsSem (K : PySem.W.Frag) (n : Nat) (ix : List Nat) (g : TGs) (gd : TDGs) : Prop := ∀ (G : Hp) (so : So) (σ : L2.St) (H : Hp) (sl : DSt) (vs : List V) (ds : List D) (Q : DSt → Prop) (R : L2.St → Hp → Prop), σ.length = n → Rep K G so σ H sl → DAll K G vs ds → gd ds sl Q →
  (∀ σ' sl', PostS K G so σ H sl σ' H G sl' → (∀ j, j ∉ ix → σ'[j]? = σ[j]? ∧ sl'[j]? = sl[j]?) → Q sl' → R σ' H) → g vs σ H R
structure DG (X : Cx) (ix : List Nat) (tg : Expr) (g : TG) (gd : TDG) : Prop where
  pg : PG X tg g
  sem : GSem X.K X.N.length ix g gd
structure DGs (X : Cx) (ix : List Nat) (tg : List Expr) (g : TGs) (gd : TDGs) : Prop where
  pg : PGs X tg g
  sem : GsSem X.K X.N.length ix g gd
def gD (i : Nat) : TDG := fun d sl Q => Q (sl.set i (some (.d d)))
def gNilD : TDGs := fun ds sl Q => match ds with
  | [] => Q sl
  | _ => False
def gConsD (g : TDG) (r : TDGs) : TDGs := fun ds sl Q => match ds with
  | d :: ds' => g d sl fun s1 => r ds' s1 Q
  | [] => False
def gTupD (n : Nat) (r : TDGs) : TDG := fun d sl Q => match d with
  | .tup ds => ds.length = n ∧ r ds sl Q
  | _ => False
section
variable {X : Cx} {pos : Pos} {i : Nat} {x : Str} {ix iy : List Nat} {e : Expr} {es : List Expr} {gd : TDG} {gs : TDGs} {g1 : TG} {g2 : TGs}
theorem gsem_name {K : PySem.W.Frag} {n : Nat} (hi : i < n) : GSem K n [i] (gName i) (gD i) := by
  intro G so σ H sl v d Q R hl rep w q k
  have h0 : i < σ.length := by rw [hl]; exact hi
  refine k _ _ ((PostE.here rep (dv := .d d) w (fun _ z => (nomatch z)) fun _ _ z => (nomatch z)).set h0 fun _ z => by cases z) (fun j hj => ?_) q
  exact ⟨List.getElem?_set_ne fun z => hj (by simp [z]), List.getElem?_set_ne fun z => hj (by simp [z])⟩
theorem dg_name (hN : X.N.Nodup) (hi : X.N[i]? = some x) (hx : Loc X.env.scope x) (hf : X.fn x = true ∨ X.env.scope.names.lookup x = some .local := by first | exact .inl rfl | exact .inr rfl | assumption) : DG X [i] (.Name x pos) (gName i) (gD i) :=
  ⟨pg_name hN hi hx hf, gsem_name (List.getElem?_eq_some_iff.mp hi).1⟩
theorem dgs_nil : DGs X [] [] gNil gNilD := ⟨pgs_nil, fun G so σ H sl vs ds Q R hl rep w q k => by
  unfold gNilD at q
  split at q
  · cases w; exact ⟨rfl, k σ sl (.refl rep) (fun _ _ => ⟨rfl, rfl⟩) q⟩
  · exact q.elim⟩
theorem dgs_cons (h1 : DG X ix e g1 gd) (h2 : DGs X iy es g2 gs) (hs : (assignEach (e :: es) X.env).map (·.2) = assign e X.env :: (assignEach es X.env).map (·.2) := by rfl) : DGs X (ix ++ iy) (e :: es) (gCons g1 g2) (gConsD gd gs) := by
  obtain ⟨p1, s1⟩ := h1
  obtain ⟨p2, s2⟩ := h2
  refine ⟨pgs_cons p1 p2 hs, fun G so σ H sl vs ds Q R hl rep w q k => ?_⟩
  unfold gConsD at q
  split at q
  · cases w with
    | cons w1 w2 =>
      refine ⟨_, _, rfl, s1 G so σ H sl _ _ _ _ hl rep w1 q fun σ1 sl1 t1 u1 q1 => ?_⟩
      refine s2 G so σ1 H sl1 _ _ _ _ (t1.ln.trans hl) t1.rep w2 q1 fun σ2 sl2 t2 u2 q2 => k σ2 sl2 (t1.trans t2) (fun j hj => ?_) q2
      have v2 := u2 j fun z => hj (List.mem_append_right _ z)
      have v1 := u1 j fun z => hj (List.mem_append_left _ z)
      exact ⟨v2.1.trans v1.1, v2.2.trans v1.2⟩
  · exact q.elim
theorem dg_tup {k : Nat} {n : Nat} {K : PySem.W.Frag} (hc : X.calm = true) (h : DGs X ix es g2 gs) (hK : X.K = K := by rfl) (hn : (assignEach es X.env).length = n := by rfl) (hst : (assignEach es X.env).findIdx? (·.1) = none := by rfl) : DG X ix (.Tuple es k pos) (gTup K n g2) (gTupD n gs) := by
  subst hK
  obtain ⟨p, s⟩ := h
  refine ⟨pg_tup hc p hn hst, fun G so σ H sl v d Q R hl rep w q k => ?_⟩
  unfold gTupD at q
  split at q
  · obtain ⟨a, vs, rfl, g1, a1⟩ := VOk.tup rep.h w
    exact ⟨a, vs, rfl, g1, a1.length.trans q.1, s G so σ H sl vs _ Q R hl rep a1 q.2 k⟩
  · exact q.elim
end

/-! ### what is walked -/
abbrev TDI := DSt → (List D → DSt → Prop) → XP → Prop
def ItD (K : PySem.W.Frag) (G : Hp) (so : So) (σ : L2.St) (H : Hp) (sl : DSt) (J : It) (ds : List D) : Prop := ∃ ps : List Addr, (∀ a ∈ ps, H a ≠ none ∧ so.Nt a ∧ ¬ Own sl σ a) ∧
  (∀ (i : Nat) H1, i < ds.length → (∀ a ∈ ps, H1 a = H a) → J.go i H1) ∧ (∀ H1, (∀ a ∈ ps, H1 a = H a) → J.stop ds.length H1) ∧
  (∀ (i : Nat) H1 x H2 G1, (∀ a ∈ ps, H1 a = H a) → Ex G G1 → HRep K G1 so H1 → J.yld i H1 x H2 → i < ds.length → ∃ d G2, ds[i]? = some d ∧ PostV K G1 so H1 x H2 G2 (.d d))
def upI (K : PySem.W.Frag) (W : WX) (t : TDI) : TI := fun σ H R => ∃ G so sl Q E, Rep K G so σ H sl ∧ t sl Q E ∧ (∀ J H' G' ds sl', Post K G so σ H sl H' G' sl' → ItD K G' so σ H' sl' J ds → Q ds sl' → R J H') ∧ XOk K W G so σ H sl E
def DI (X : Cx) (W : WX) (tg iter : Expr) (t : TDI) : Prop := PI X tg iter (upI X.K W t)
theorem pi_imp {X : Cx} {tg e : Expr} {t t' : TI} (h : PI X tg e t) (f : ∀ σ H R, t' σ H R → t σ H R) : PI X tg e t' := ⟨fun pins s σ H Q I q => h.run pins s σ H Q I (f _ _ _ q)⟩

/-- the signs of a text, one by one -/
def signs (z : Str) : List D := z.cps.toList.map fun c => .str ⟨#[c]⟩
@[irreducible] def iterR : DV → (List D → Prop) → Prop
  | .d (.tup ds), Q => Q ds
  | .d (.str z), Q => Q (signs z)
  | .see _, _ => False
  | v, Q => match v.items with
    | some ds => Q ds
    | none => False
/-- for .. in e -/
def dIter (te : TD) : TDI := fun sl Q E => te sl (fun x s1 => iterR (pubV x) fun ds => Q ds s1) E
def intsFrom (lo : Int) : Nat → List D
  | 0 => []
  | n + 1 => .int lo :: intsFrom (lo + 1) n
theorem intsFrom_len (lo : Int) (n : Nat) : (intsFrom lo n).length = n := by
  induction n generalizing lo with
  | zero => rfl
  | succ n ih => show (intsFrom (lo + 1) n).length + 1 = n + 1; rw [ih]
theorem intsFrom_get (lo : Int) (n i : Nat) (h : i < n) : (intsFrom lo n)[i]? = some (.int (lo + i)) := by
  induction n generalizing lo i with
  | zero => omega
  | succ n ih =>
    cases i with
    | zero => show some (D.int lo) = _; rw [show lo + ((0 : Nat) : Int) = lo by omega]
    | succ i => show (intsFrom (lo + 1) n)[i]? = _; rw [ih (lo + 1) i (by omega)]; congr 2; omega
/-- what a call of range, enumerate, zip walks -/
def dItA (rd : List DV → (List D → Prop) → Prop) (ta : TDA) : TDI := fun sl Q E => ta sl (fun xs s1 => rd xs fun ds => Q ds s1) E
@[irreducible] def rngR1 : List DV → (List D → Prop) → Prop
  | [.d (.int j)], Q => -(2 ^ 62) ≤ j ∧ j < 2 ^ 62 ∧ Q (intsFrom 0 j.toNat)
  | _, _ => False
@[irreducible] def rngR2 : List DV → (List D → Prop) → Prop
  | [.d (.int i), .d (.int j)], Q => (-(2 ^ 62) ≤ i ∧ i < 2 ^ 62 ∧ -(2 ^ 62) ≤ j ∧ j < 2 ^ 62) ∧ Q (intsFrom i (j - i).toNat)
  | _, _ => False
def enumFrom (i : Int) : List D → List D
  | [] => []
  | d :: r => .tup [.int i, d] :: enumFrom (i + 1) r
theorem enum_len (i : Int) (ds : List D) : (enumFrom i ds).length = ds.length := by
  induction ds generalizing i with
  | nil => rfl
  | cons d r ih => show (enumFrom (i + 1) r).length + 1 = r.length + 1; rw [ih]
theorem enum_get (i : Int) (ds : List D) (j : Nat) (d : D) (h : ds[j]? = some d) : (enumFrom i ds)[j]? = some (.tup [.int (i + j), d]) := by
  induction ds generalizing i j with
  | nil => simp at h
  | cons e r ih =>
    cases j with
    | zero => cases h; show some (D.tup [.int i, d]) = _; rw [show i + ((0 : Nat) : Int) = i by omega]
    | succ j => show (enumFrom (i + 1) r)[j]? = _; rw [ih (i + 1) j (by simpa using h)]; congr 4; omega
@[irreducible] def enumR : List DV → (List D → Prop) → Prop
  | [.see _], _ => False
  | [.bor _], _ => False
  | [v], Q => match v.items with
    | some ds => Q (enumFrom 0 ds)
    | none => False
  | _, _ => False
def zipD : List D → List D → List D
  | a :: r, b :: s => .tup [a, b] :: zipD r s
  | _, _ => []
theorem zip_len (xs ys : List D) : (zipD xs ys).length = min xs.length ys.length := by
  induction xs generalizing ys with
  | nil => cases ys <;> simp [zipD]
  | cons a r ih => cases ys with
    | nil => simp [zipD]
    | cons b s => show (zipD r s).length + 1 = _; rw [ih]; simp only [List.length_cons]; omega
theorem zip_get (xs ys : List D) (j : Nat) (a b : D) (h : xs[j]? = some a) (h' : ys[j]? = some b) : (zipD xs ys)[j]? = some (.tup [a, b]) := by
  induction xs generalizing ys j with
  | nil => simp at h
  | cons x r ih => cases ys with
    | nil => simp at h'
    | cons y s => cases j with
      | zero => cases h; cases h'; rfl
      | succ j => exact ih s j (by simpa using h) (by simpa using h')
@[irreducible] def zipR : List DV → (List D → Prop) → Prop
  | [.d (.tup xs), .d (.tup ys)], Q => Q (zipD xs ys)
  | [.d (.lst xs), .d (.lst ys)], Q => Q (zipD xs ys)
  | _, _ => False
section
variable {X : Cx} {W : WX} {tg e e2 a b : Expr} {te : TD} {ta : TDA} {pos p : Pos}
def iAny (K : PySem.W.Frag) (tl : TE) : TI := fun σ H R => tl σ H fun x H1 => (∃ a, x = .ref a ∧ (∃ xs, SqL K H1 a xs) ∧ R (Itl K a) H1) ∨ (∃ a, x = .ref a ∧ (∃ xs, SqT K H1 a xs) ∧ R (Itt K a) H1) ∨ ∃ z, x = .str z ∧ R (Its z) H1
theorem pi_any {tl : TE} (hl : PE X e tl) : PI X tg e (iAny X.K tl) := by
  refine ⟨fun pins s σ H R I h => thn (hl.run pins s σ H _ I h) fun v s1 ⟨x, H1, I1, r1, q1⟩ => ?_⟩
  rcases q1 with ⟨a, ex, ⟨xs, hq⟩, q⟩ | ⟨a, ex, ⟨xs, hq⟩, q⟩ | ⟨z, ex, q⟩
  · subst ex; cases r1
    obtain ⟨its, rv, pl, _⟩ := I1.list hq
    exact wpAny_pyIter_list pl.isList (pi_one (tk := s1.toks) I1 _ (turn_list a _) ⟨_, Heap.get?_push_size _ rfl, rfl, rfl⟩ q)
  · subst ex; cases r1
    obtain ⟨its, rv, pt, _⟩ := I1.tuple hq
    exact wpAny_pyIter_tuple (show s1.heap.IsTuple a its.toArray from pt) (pi_one (tk := s1.toks) I1 _ (turn_tuple a _) ⟨_, Heap.get?_push_size _ rfl, rfl, rfl⟩ q)
  · subst ex
    obtain ⟨t, rfl⟩ := r1
    cases ha : z.cps.all (· < 128)
    · exact wpAny_pyIter_wide ha (pi_one (tk := s1.toks) I1 _ (turn_str _ z t "str_iterator" (.inr rfl)) ⟨_, Heap.get?_push_size _ rfl, rfl, rfl⟩ q)
    · exact wpAny_pyIter_ascii ha (pi_one (tk := s1.toks) I1 _ (turn_str _ z t "str_ascii_iterator" (.inl rfl)) ⟨_, Heap.get?_push_size _ rfl, rfl, rfl⟩ q)
section
variable {K : PySem.W.Frag} {G H : Hp} {so : So} {σ : L2.St} {sl : DSt} {v w : V} {dv dw : DV}
theorem same_l {H1 : Hp} {c : Addr} {vs : List V} (h : SqL K H c vs) (e : H1 c = H c) : SqL K H1 c vs := by
  rcases h with (h | ⟨o, h⟩) | h
  · exact .inl (.inl (by rw [e]; exact h))
  · exact .inl (.inr ⟨o, by rw [e]; exact h⟩)
  · exact .inr h
theorem same_t {H1 : Hp} {c : Addr} {vs : List V} (h : SqT K H c vs) (e : H c ≠ none → H1 c = H c) : SqT K H1 c vs := by
  rcases h with (h | ⟨o, h⟩) | h
  · exact .inl (.inl (by rw [e (by rw [h]; simp)]; exact h))
  · exact .inl (.inr ⟨o, by rw [e (by rw [h]; simp)]; exact h⟩)
  · exact .inr h
/-- a list that is no slot's own: its place, what stands there -/
theorem VOk.listS {ds : List D} (rep : Rep K G so σ H sl) (w : VOk K G so H v dv) (n : ∀ o a, dv = .own o ∨ dv = .bor o → v = .ref a → ¬ Own sl σ a) (m : ∀ o, dv ≠ .see o) (e : dv.items = some ds) :
    ∃ a vs, v = .ref a ∧ H a = some (.lst vs) ∧ DAll K G vs ds ∧ H a ≠ none ∧ so.Nt a ∧ ¬ Own sl σ a := by
  unfold DV.items at e
  split at e
  · cases e
    cases w with
    | lst g al => exact ⟨_, _, rfl, rep.h.ex _ _ g, al, by rw [rep.h.ex _ _ g]; simp, rep.h.nsrc g, fun z => by have := (rep.nown z).2.1; rw [g] at this; cases this⟩
  · cases e
    obtain ⟨c, rfl, g, s, vs, e1, al⟩ := w
    exact ⟨c, vs, rfl, e1, al, by rw [e1]; simp, s, n _ c (.inl rfl) rfl⟩
  · cases e
    obtain ⟨c, rfl, s, vs, e1, al⟩ := w
    exact ⟨c, vs, rfl, e1, al, by rw [e1]; simp, s, n _ c (.inr rfl) rfl⟩
  · exact absurd rfl (m _)
  · cases e
theorem it_list {c : Addr} {vs : List V} {ds : List D} (e : H c = some (.lst vs)) (al : DAll K G vs ds) (s : so.Nt c) (n : ¬ Own sl σ c) : ItD K G so σ H sl (Itl K c) ds := by
  refine ⟨[c], fun a ha => ?_, fun i H1 hi k => ?_, fun H1 k => ?_, fun i H1 x H2 G1 k g h1 y hi => ?_⟩
  · obtain rfl : a = c := by simpa using ha
    exact ⟨by rw [e]; simp, s, n⟩
  · have q : H1 c = some (.lst vs) := by rw [k c (by simp)]; exact e
    have hl : i < vs.length := by rw [al.length]; exact hi
    exact ⟨vs, vs[i], SqL.of q, by simp [hl]⟩
  · have q : H1 c = some (.lst vs) := by rw [k c (by simp)]; exact e
    exact ⟨vs, SqL.of q, by rw [al.length]; exact Nat.le_refl _⟩
  · have q : H1 c = some (.lst vs) := by rw [k c (by simp)]; exact e
    obtain ⟨rfl, y⟩ := y
    obtain ⟨d, e1, e2⟩ := al.getV (y vs (SqL.of q))
    exact ⟨d, G1, e1, .dat h1 (e2.mono g)⟩
theorem it_tup {c : Addr} {vs : List V} {ds : List D} (rep : Rep K G so σ H sl) (e : SqT K G c vs) (al : DAll K G vs ds) : ItD K G so σ H sl (Itt K c) ds := by
  have kp : ∀ (H1 : Hp), (∀ a ∈ (if G c = none then [] else [c]), H1 a = H a) → SqT K H1 c vs := fun H1 k => by
    rcases e with (e | ⟨o, e⟩) | e
    · refine .inl (.inl ?_)
      rw [k c (by rw [if_neg (by rw [e]; simp)]; simp)]; exact rep.h.ex _ _ e
    · refine .inl (.inr ⟨o, ?_⟩)
      rw [k c (by rw [if_neg (by rw [e]; simp)]; simp)]; exact rep.h.ex _ _ e
    · exact .inr e
  refine ⟨if G c = none then [] else [c], fun a ha => ?_, fun i H1 hi k => ?_, fun H1 k => ?_, fun i H1 x H2 G1 k g h1 y hi => ?_⟩
  · split at ha
    · simp at ha
    · rename_i z
      obtain rfl : a = c := by simpa using ha
      obtain ⟨o, eo⟩ := Option.ne_none_iff_exists'.mp z
      exact ⟨by rw [rep.h.ex _ _ eo]; simp, rep.h.nsrc eo, fun q => z (rep.nown q).2.1⟩
  · have hl : i < vs.length := by rw [al.length]; exact hi
    exact ⟨vs, vs[i], kp H1 k, by simp [hl]⟩
  · exact ⟨vs, kp H1 k, by rw [al.length]; exact Nat.le_refl _⟩
  · obtain ⟨rfl, y⟩ := y
    obtain ⟨d, e1, e2⟩ := al.getV (y vs (kp _ k))
    exact ⟨d, G1, e1, .dat h1 (e2.mono g)⟩
theorem it_str {z : Str} : ItD K G so σ H sl (Its z) (signs z) := by
  have hl : (signs z).length = z.cps.size := by unfold signs; simp
  refine ⟨[], fun a ha => by simp at ha, fun i H1 hi k => by rw [hl] at hi; exact hi, fun H1 k => Nat.le_of_eq hl.symm, fun i H1 x H2 G1 k g h1 y hi => ?_⟩
  obtain ⟨rfl, c, e, rfl⟩ := y
  refine ⟨.str ⟨#[c]⟩, G1, ?_, .dat h1 (.str _)⟩
  unfold signs
  rw [List.getElem?_map, Array.getElem?_toList, e]; rfl
theorem it_rng {lo : Int} {n : Nat} : ItD K G so σ H sl (Itr lo n) (intsFrom lo n) := by
  have hl := intsFrom_len lo n
  refine ⟨[], fun a ha => by simp at ha, fun i H1 hi k => by rw [hl] at hi; exact hi, fun H1 k => Nat.le_of_eq hl.symm, fun i H1 x H2 G1 k g h1 y hi => ?_⟩
  obtain ⟨rfl, rfl⟩ := y
  rw [hl] at hi
  exact ⟨_, G1, intsFrom_get lo n i hi, .dat h1 (.int _)⟩
theorem it_enum {c : Addr} {vs : List V} {ds : List D} (e : H c = some (.lst vs)) (al : DAll K G vs ds) (s : so.Nt c) (n : ¬ Own sl σ c) : ItD K G so σ H sl (Ite K c) (enumFrom 0 ds) := by
  have hl := enum_len 0 ds
  have W := walk_enum (K := K) (a := c) (xs := vs)
  refine ⟨[c], fun a ha => ?_, fun i H1 hi k => ?_, fun H1 k => ?_, fun i H1 x H2 G1 k g h1 y hi => ?_⟩
  · obtain rfl : a = c := by simpa using ha
    exact ⟨by rw [e]; simp, s, n⟩
  · exact W.goes i H1 (by rw [al.length, ← hl]; exact hi) (SqL.of (by rw [k c (by simp)]; exact e))
  · rw [hl, ← al.length]; exact W.stops H1 (SqL.of (by rw [k c (by simp)]; exact e))
  · obtain ⟨T, x1, x2, rfl, nT, rfl, f1, f2⟩ := W.yields i H1 x H2 (by rw [al.length, ← hl]; exact hi) (SqL.of (by rw [k c (by simp)]; exact e)) y
    cases f1
    obtain ⟨d, e1, e2⟩ := al.getV f2
    refine ⟨_, _, enum_get 0 ds i d e1, .tuple h1 nT (.cons ?_ (.cons (e2.mono g) .nil))⟩
    rw [show (0 : Int) + (i : Nat) = (i : Nat) by omega]; exact .int _
theorem it_zip {c c' : Addr} {vs ws : List V} {ds es : List D} (e : H c = some (.lst vs)) (al : DAll K G vs ds) (s : so.Nt c) (n : ¬ Own sl σ c) (e' : H c' = some (.lst ws)) (al' : DAll K G ws es) (s' : so.Nt c') (n' : ¬ Own sl σ c') : ItD K G so σ H sl (Itz K c c') (zipD ds es) := by
  have hl := zip_len ds es
  have hl2 : (zipD ds es).length = min vs.length ws.length := by rw [hl, al.length, al'.length]
  have W := walk_zip (K := K) (a := c) (b := c') (xs := vs) (ys := ws) hl2
  have st : ∀ (H1 : Hp), (∀ a ∈ [c, c'], H1 a = H a) → SqL K H1 c vs ∧ SqL K H1 c' ws := fun H1 k => ⟨SqL.of (by rw [k c (by simp)]; exact e), SqL.of (by rw [k c' (by simp)]; exact e')⟩
  refine ⟨[c, c'], fun a ha => ?_, fun i H1 hi k => W.goes i H1 hi (st H1 k), fun H1 k => W.stops H1 (st H1 k), fun i H1 x H2 G1 k g h1 y hi => ?_⟩
  · rcases (by simpa using ha : a = c ∨ a = c') with rfl | rfl
    · exact ⟨by rw [e]; simp, s, n⟩
    · exact ⟨by rw [e']; simp, s', n'⟩
  · obtain ⟨T, x1, x2, rfl, nT, rfl, f1, f2⟩ := W.yields i H1 x H2 hi (st H1 k) y
    obtain ⟨d1, e1, e2⟩ := al.getV f1
    obtain ⟨d2, e3, e4⟩ := al'.getV f2
    exact ⟨_, _, zip_get ds es i d1 d2 e1 e3, .tuple h1 nT (.cons (e2.mono g) (.cons (e4.mono g) .nil))⟩
end
theorem pub_nown {x : V} {dx : DV} {sl : DSt} {σ : L2.St} {K : PySem.W.Frag} {G : Hp} {so : So} {H : Hp} (rep : Rep K G so σ H sl) : ∀ o a, pubV dx = .own o → x = .ref a → ¬ Own sl σ a := fun o a e => absurd e (pubV_not dx o)
end
end DL

set_option Elab.async false
set_option linter.all false
set_option maxRecDepth 100000
set_option autoImplicit false
set_option maxHeartbeats 2000000
namespace DL
open PySem PySem.Spec PyProof.Rows L2

section
variable {X : Cx} {W : WX} {tg e e2 a b : Expr} {te : TD} {ta : TDA} {pos p : Pos}
theorem di_any (h : DE X W e te) : DI X W tg e (dIter te) := pi_imp (pi_any h) fun σ H R ⟨G, so, sl, Q, E, rep, q, hq, hx⟩ => by
  refine ⟨G, so, sl, _, E, rep, q, fun x H1 G0 dx s1 p0 q1 => ?_, hx⟩
  obtain ⟨G1, p⟩ := p0.pub
  have w := p.val
  have sv := p.sepv
  have rp := p.rep
  have pp := p.toPost
  generalize hz : pubV dx = dz at w q1 sv
  unfold iterR at q1
  split at q1
  · cases w with
    | tup g al => exact .inr (.inl ⟨_, rfl, ⟨_, ex_t rp.h.ex g⟩, hq _ H1 G1 _ s1 pp (it_tup rp g al) q1⟩)
  · cases w; exact .inr (.inr ⟨_, rfl, hq _ H1 G1 _ s1 pp it_str q1⟩)
  · exact q1.elim
  · split at q1
    · rename_i ns _o ds e1
      obtain ⟨c, vs, rfl, e2, al, _, s, n⟩ := VOk.listS rp w (fun o c e' q' => sv c o e' q') (fun o z => ns o z) e1
      exact .inl ⟨c, rfl, ⟨_, SqL.of e2⟩, hq _ H1 G1 _ s1 pp (it_list e2 al s n) q1⟩
    · exact q1.elim
theorem VsOk.v1 {K : PySem.W.Frag} {G H : Hp} {so : So} {vs : List V} {d : DV} (h : VsOk K G so H vs [d]) : ∃ v, vs = [v] ∧ VOk K G so H v d ∧ ∀ o, d ≠ .own o := by
  cases h with
  | cons w n t => cases t; exact ⟨_, rfl, w, n⟩
theorem VsOk.v2 {K : PySem.W.Frag} {G H : Hp} {so : So} {vs : List V} {d e : DV} (h : VsOk K G so H vs [d, e]) : ∃ v w, vs = [v, w] ∧ VOk K G so H v d ∧ VOk K G so H w e ∧ (∀ o, d ≠ .own o) ∧ ∀ o, e ≠ .own o := by
  cases h with
  | cons w n t =>
    obtain ⟨v, rfl, w2, n2⟩ := t.v1
    exact ⟨_, v, rfl, w, w2, n, n2⟩
theorem rep_own {K : PySem.W.Frag} {G H : Hp} {so : So} {σ : L2.St} {sl : DSt} (rep : Rep K G so σ H sl) {c : Addr} {o : HO} (g : G c = some o) : ¬ Own sl σ c := fun z => by
  have := (rep.nown z).2.1
  rw [g] at this; cases this
theorem di_rng1 (hg : Gl X "range") (hm : X.mg "range" = none) (h : DA X W [a] ta) (hs : starEach [a] X.env = [(false, eval a X.env)] := by rfl) : DI X W tg (.Call (.Name "range" p) [a] [] pos) (dItA rngR1 ta) := pi_imp (pi_range1 hg hm h hs) fun σ H R ⟨G, so, sl, Q, E, rep, q, hq, hx⟩ => by
  refine ⟨G, so, sl, _, E, rep, q, fun vs H1 G1 ds s1 pp w q1 => ?_, hx⟩
  unfold rngR1 at q1
  split at q1
  · obtain ⟨v, rfl, w1, _⟩ := w.v1
    cases w1
    exact ⟨_, rfl, q1.1, q1.2.1, hq _ H1 G1 _ s1 pp it_rng q1.2.2⟩
  · exact q1.elim
theorem di_rng2 (hg : Gl X "range") (hm : X.mg "range" = none) (h : DA X W [a, b] ta) (hs : starEach [a, b] X.env = [(false, eval a X.env), (false, eval b X.env)] := by rfl) (hs2 : starEach [b] X.env = [(false, eval b X.env)] := by rfl) : DI X W tg (.Call (.Name "range" p) [a, b] [] pos) (dItA rngR2 ta) := pi_imp (pi_range2 hg hm h hs hs2) fun σ H R ⟨G, so, sl, Q, E, rep, q, hq, hx⟩ => by
  refine ⟨G, so, sl, _, E, rep, q, fun vs H1 G1 ds s1 pp w q1 => ?_, hx⟩
  unfold rngR2 at q1
  split at q1
  · obtain ⟨v, v', rfl, w1, w2, _⟩ := w.v2
    cases w1; cases w2
    exact ⟨_, _, rfl, q1.1, hq _ H1 G1 _ s1 pp it_rng q1.2⟩
  · exact q1.elim
theorem di_enum {elts : List Expr} {kk : Nat} {tpos : Pos} (hg : Gl X "enumerate") (hm : X.mg "enumerate" = none) (h : DA X W [e] ta) (hs : starEach [e] X.env = [(false, eval e X.env)] := by rfl) : DI X W (.Tuple elts kk tpos) (.Call (.Name "enumerate" p) [e] [] pos) (dItA enumR ta) := pi_imp (pi_enum hg hm h hs) fun σ H R ⟨G, so, sl, Q, E, rep, q, hq, hx⟩ => by
  refine ⟨G, so, sl, _, E, rep, q, fun vs H1 G1 ds s1 pp w q1 => ?_, hx⟩
  unfold enumR at q1
  split at q1
  · exact q1.elim
  · exact q1.elim
  · rename_i dv n1 n2
    obtain ⟨v, rfl, w1, no⟩ := w.v1
    split at q1
    · rename_i _o xs e1
      obtain ⟨c, us, rfl, e2, al, _, s, n⟩ := VOk.listS pp.rep w1 (fun o c e' q' => e'.elim (fun z => absurd z (no o)) fun z => absurd z (n2 o)) (fun o z => n1 o z) e1
      exact ⟨c, us, rfl, SqL.of e2, hq _ H1 G1 _ s1 pp (it_enum e2 al s n) q1⟩
    · exact q1.elim
  · exact q1.elim
end
section
variable {X : Cx} {W : WX} {e e2 : Expr} {ta : TDA} {pos p : Pos}
theorem it_zipT {K : PySem.W.Frag} {G H : Hp} {so : So} {σ : L2.St} {sl : DSt} {c c' : Addr} {vs ws : List V} {ds es : List D} (rep : Rep K G so σ H sl) (g : SqT K G c vs) (al : DAll K G vs ds) (g' : SqT K G c' ws) (al' : DAll K G ws es) : ItD K G so σ H sl (RZ.ItzT K c c') (zipD ds es) := by
  have hl := zip_len ds es
  have kp : ∀ (c : Addr) (vs : List V) (H1 : Hp), SqT K G c vs → (∀ a ∈ (if G c = none then [] else [c]), H1 a = H a) → SqT K H1 c vs := fun c vs H1 e k => by
    rcases e with (e | ⟨o, e⟩) | e
    · refine .inl (.inl ?_)
      rw [k c (by rw [if_neg (by rw [e]; simp)]; simp)]; exact rep.h.ex _ _ e
    · refine .inl (.inr ⟨o, ?_⟩)
      rw [k c (by rw [if_neg (by rw [e]; simp)]; simp)]; exact rep.h.ex _ _ e
    · exact .inr e
  have st : ∀ (H1 : Hp), (∀ a ∈ (if G c = none then [] else [c]) ++ (if G c' = none then [] else [c']), H1 a = H a) → SqT K H1 c vs ∧ SqT K H1 c' ws := fun H1 k =>
    ⟨kp c vs H1 g fun a ha => k a (List.mem_append_left _ ha), kp c' ws H1 g' fun a ha => k a (List.mem_append_right _ ha)⟩
  have one : ∀ (c a : Addr), a ∈ (if G c = none then [] else [c]) → H a ≠ none ∧ so.Nt a ∧ ¬ Own sl σ a := fun c a ha => by
    split at ha
    · simp at ha
    · rename_i z
      obtain rfl : a = c := by simpa using ha
      obtain ⟨o, eo⟩ := Option.ne_none_iff_exists'.mp z
      exact ⟨by rw [rep.h.ex _ _ eo]; simp, rep.h.nsrc eo, fun q => z (rep.nown q).2.1⟩
  refine ⟨(if G c = none then [] else [c]) ++ (if G c' = none then [] else [c']), fun a ha => (List.mem_append.mp ha).elim (one c a) (one c' a), fun i H1 hi k => ?_, fun H1 k => ?_, fun i H1 x H2 G1 k g1 h1 y hi => ?_⟩
  · have h1 : i < vs.length := by rw [al.length]; rw [hl] at hi; omega
    have h2 : i < ws.length := by rw [al'.length]; rw [hl] at hi; omega
    exact ⟨vs, ws, vs[i], ws[i], (st H1 k).1, (st H1 k).2, by simp [h1], by simp [h2]⟩
  · refine ⟨vs, ws, (st H1 k).1, (st H1 k).2, ?_⟩
    rw [hl, al.length, al'.length]
    omega
  · obtain ⟨T, x1, x2, h2, h3, h4, f1, f2⟩ := y
    have f1' := f1 vs (st H1 k).1
    have f2' := f2 ws (st H1 k).2
    subst h2; subst h4
    obtain ⟨d1, e1, e2⟩ := al.getV f1'
    obtain ⟨d2, e3, e4⟩ := al'.getV f2'
    exact ⟨_, _, zip_get ds es i d1 d2 e1 e3, .tuple h1 h3 (.cons (e2.mono g1) (.cons (e4.mono g1) .nil))⟩
theorem di_zip {elts : List Expr} {kk : Nat} {tpos : Pos} (hg : Gl X "zip") (hm : X.mg "zip" = none) (h : DA X W [e, e2] ta) (hs : starEach [e, e2] X.env = (false, eval e X.env) :: starEach [e2] X.env := by rfl) (hpl : (backTo pos (starEach [e2] X.env)).any (·.1) = false := by rfl) : DI X W (.Tuple elts kk tpos) (.Call (.Name "zip" p) [e, e2] [] pos) (dItA zipR ta) := pi_imp (RZ.pi_zipA hg hm h hs hpl) fun σ H R ⟨G, so, sl, Q, E, rep, q, hq, hx⟩ => by
  refine ⟨G, so, sl, _, E, rep, q, fun vs H1 G1 ds s1 pp w q1 => ?_, hx⟩
  unfold zipR at q1
  split at q1
  · obtain ⟨v, v', rfl, w1, w2, _⟩ := w.v2
    cases w1 with
    | tup g al =>
      cases w2 with
      | tup g' al' => exact ⟨_, _, _, _, rfl, .inr ⟨ex_t pp.rep.h.ex g, ex_t pp.rep.h.ex g', hq _ H1 G1 _ s1 pp (it_zipT pp.rep g al g' al') q1⟩⟩
  · obtain ⟨v, v', rfl, w1, w2, _⟩ := w.v2
    cases w1 with
    | lst g al =>
      cases w2 with
      | lst g' al' => exact ⟨_, _, _, _, rfl, .inl ⟨SqL.of (pp.rep.h.ex _ _ g), SqL.of (pp.rep.h.ex _ _ g'), hq _ H1 G1 _ s1 pp (it_zip (pp.rep.h.ex _ _ g) al (pp.rep.h.nsrc g) (rep_own pp.rep g) (pp.rep.h.ex _ _ g') al' (pp.rep.h.nsrc g') (rep_own pp.rep g')) q1⟩⟩
  · exact q1.elim
end

/-! ### for -/
def dForL0 (g : TDG) (tb : TDS) (E : EndsD) : List D → DSt → Prop
  | [], sl => E.nx sl
  | d :: r, sl => g d sl fun s1 => tb { nx := dForL0 g tb E r, ct := dForL0 g tb E r, bk := E.nx, rt := E.rt, xc := E.xc } s1
@[irreducible] def dForL (g : TDG) (tb : TDS) (E : EndsD) (ds : List D) (sl : DSt) : Prop := dForL0 g tb E ds sl
theorem forL_nil {g : TDG} {tb : TDS} {E : EndsD} {sl : DSt} : dForL g tb E [] sl = E.nx sl := by unfold dForL; rfl
theorem forL_cons {g : TDG} {tb : TDS} {E : EndsD} {sl : DSt} {d : D} {r : List D} : dForL g tb E (d :: r) sl = g d sl fun s1 => tb { nx := dForL g tb E r, ct := dForL g tb E r, bk := E.nx, rt := E.rt, xc := E.xc } s1 := by unfold dForL; rfl
def dFor (ti : TDI) (g : TDG) (tb : TDS) : TDS := fun E sl => ti sl (fun ds s1 => dForL g tb E ds s1) E.xc
section
variable {X : Cx} {W : WX} {tg iter : Expr} {body : List Stmt} {ti : TDI} {g : TDG} {tb : TDS} {pos : Pos} {ix : List Nat} {g' : TG}
theorem ds_for (hp : PassesOwn (model X.prog X.w) X.A X.env X.xe) (hc : X.calm = true) (hi : DI X W tg iter ti) (hg : DG X ix tg g' g) (hb : DSs X W body tb) (hs : ∀ x, foldedSetIterable iter X.env x = pure x := by intro _; rfl) : DS X W (.For tg iter body [] pos) (dFor ti g tb) := by
  obtain ⟨pg, sg⟩ := hg
  refine ps_len (ps_for hp hc hi pg hb hs) fun D σ H hl ⟨G, so, sl, E, rep, q, ok⟩ => ?_
  refine ⟨G, so, sl, _, E.xc, rep, q, fun J H1 G1 ds s1 p0 it q1 => ?_, ok.xc.ex⟩
  obtain ⟨ps, prot, goes, stops, yields⟩ := it
  have same : ∀ {σ' : L2.St} {H' G' : Hp} {sl' : DSt}, PostS X.K G1 so σ H1 s1 σ' H' G' sl' → ∀ a ∈ ps, H' a = H1 a := fun {σ' H' G' sl'} t a ha => by
    obtain ⟨n, s, w⟩ := prot a ha
    obtain ⟨o, eo⟩ := Option.ne_none_iff_exists'.mp n
    rw [t.keep a o eo s w, eo]
  have ok1 := ok.step p0.s
  refine ⟨fun i m σ' H' => m = ds.length - i ∧ i ≤ ds.length ∧ ∃ G' sl', PostS X.K G1 so σ H1 s1 σ' H' G' sl' ∧ dForL g tb E (ds.drop i) sl', ⟨ds.length, by simp, Nat.zero_le _, G1, s1, .refl p0.rep, q1⟩, ?_⟩
  rintro i m σ' H' ⟨rfl, hi, G', sl', t, q2⟩
  by_cases hlt : i < ds.length
  · refine .inr ⟨goes i H' hlt (same t), fun σ'' H'' => ∃ G'' sl'', PostS X.K G1 so σ H1 s1 σ'' H'' G'' sl'' ∧ dForL g tb E (ds.drop (i + 1)) sl'', fun σ'' H'' ⟨G'', sl'', t2, q3⟩ => ⟨ds.length - (i + 1), by omega, rfl, hlt, G'', sl'', t2, q3⟩, fun x H2 y => ?_⟩
    obtain ⟨d, G2, ed, pv⟩ := yields i H' x H2 G' (same t) t.ex t.rep.h y hlt
    have pe := pv.slots t.rep
    have t2 := t.trans pe.toPost.s
    rw [List.drop_eq_getElem_cons hlt] at q2
    have ed' : ds[i] = d := by rw [List.getElem?_eq_getElem hlt] at ed; exact Option.some.inj ed
    rw [ed', forL_cons] at q2
    refine sg G2 so σ' H2 sl' x d _ _ (t.ln.trans hl) pe.rep pe.val q2 fun σ3 sl3 t3 _ q3 => ?_
    have t13 := t2.trans t3
    refine ⟨G2, so, sl3, _, t3.rep, q3, ⟨fun σ4 H4 G4 s4 t4 q4 => ⟨G4, s4, t13.trans t4, q4⟩, fun σ4 H4 G4 s4 t4 q4 => ok1.nx σ4 H4 G4 s4 (t13.trans t4) q4, fun σ4 H4 G4 s4 t4 q4 => ⟨G4, s4, t13.trans t4, q4⟩, fun v H4 G4 dv t4 q4 => ok1.rt v H4 G4 dv (t13.thenR t4) q4, ok1.xc.step t13⟩⟩
  · have e : i = ds.length := by omega
    subst e
    rw [List.drop_length, forL_nil] at q2
    exact .inl ⟨stops H' (same t), ok1.nx σ' H' G' sl' t q2⟩
end

/-! ### while -/
def dWhile (c : TDT) (tb : TDS) : TDS := fun E sl => ∃ I : Nat → DSt → Prop, (∃ m, I m sl) ∧ ∀ m s, I m s → c s (fun b s1 => Br b (tb { nx := fun s2 => ∃ m', m' < m ∧ I m' s2, ct := fun s2 => ∃ m', m' < m ∧ I m' s2, bk := E.nx, rt := E.rt, xc := E.xc } s1) (E.nx s1)) E.xc
section
variable {X : Cx} {W : WX} {c : Expr} {body : List Stmt} {tc : TDT} {tb : TDS} {pos : Pos}
theorem ds_while (hp : PassesOwn (model X.prog X.w) X.A X.env X.xe) (hc : DT X W c tc) (hb : DSs X W body tb) : DS X W (.While c body [] pos) (dWhile tc tb) := by
  refine ps_imp (ps_while hp hc hb) fun D σ H ⟨G, so, sl, E, rep, ⟨I, ⟨m0, i0⟩, turn⟩, ok⟩ => ?_
  refine ⟨fun m σ' H' => ∃ G' sl', PostS X.K G so σ H sl σ' H' G' sl' ∧ I m sl', ⟨m0, G, sl, .refl rep, i0⟩, ?_⟩
  rintro m σ' H' ⟨G', sl', t, im⟩
  have okt := ok.step t
  refine ⟨G', so, sl', _, E.xc, t.rep, turn m sl' im, fun b H1 G1 s1 p q => ?_, okt.xc.ex⟩
  have t1 := t.trans p.s
  cases b with
  | true =>
    refine iteT ?_
    refine ⟨fun σ2 H2 => ∃ m', m' < m ∧ ∃ G2 s2, PostS X.K G so σ H sl σ2 H2 G2 s2 ∧ I m' s2, fun σ2 H2 h => h, ?_⟩
    exact ⟨G1, so, s1, _, p.rep, (brt q), ⟨fun σ4 H4 G4 s4 t4 ⟨m', hm, q4⟩ => ⟨m', hm, G4, s4, t1.trans t4, q4⟩, fun σ4 H4 G4 s4 t4 q4 => ok.nx σ4 H4 G4 s4 (t1.trans t4) q4, fun σ4 H4 G4 s4 t4 ⟨m', hm, q4⟩ => ⟨m', hm, G4, s4, t1.trans t4, q4⟩, fun v H4 G4 dv t4 q4 => ok.rt v H4 G4 dv (t1.thenR t4) q4, ok.xc.step t1⟩⟩
  | false =>
    refine iteF ?_
    exact ok.nx σ' H1 G1 s1 t1 ((brf q))
end

/-! ### comprehensions -/
def wipeD (sl : DSt) : List Nat → DSt
  | [] => sl
  | v :: vs => (wipeD sl vs).set v none
def dLcL0 (g : TDG) (tt : TDT) (te : TD) (vs : List Nat) (Q : DV → DSt → Prop) : List D → List D → DSt → Prop
  | [], acc, sl => Q (.own (.lst acc)) sl
  | d :: r, acc, sl => g d sl fun s1 => tt s1 (fun b s2 => Br b (te s2 (fun x s3 => match pubV x with
    | .d y => acc.length < szl ∧ dLcL0 g tt te vs Q r (acc ++ [y]) (wipeD s3 vs)
    | _ => False) fun _ _ _ => False) (dLcL0 g tt te vs Q r acc (wipeD s2 vs))) fun _ _ _ => False
@[irreducible] def dLcL (g : TDG) (tt : TDT) (te : TD) (vs : List Nat) (Q : DV → DSt → Prop) (ds acc : List D) (sl : DSt) : Prop := dLcL0 g tt te vs Q ds acc sl
theorem lcL_nil {g : TDG} {tt : TDT} {te : TD} {vs : List Nat} {Q : DV → DSt → Prop} {acc : List D} {sl : DSt} : dLcL g tt te vs Q [] acc sl = Q (.own (.lst acc)) sl := by unfold dLcL; rfl
theorem lcL_cons {g : TDG} {tt : TDT} {te : TD} {vs : List Nat} {Q : DV → DSt → Prop} {d : D} {r acc : List D} {sl : DSt} : dLcL g tt te vs Q (d :: r) acc sl = g d sl fun s1 => tt s1 (fun b s2 => Br b (te s2 (fun x s3 => match pubV x with
    | .d y => acc.length < szl ∧ dLcL g tt te vs Q r (acc ++ [y]) (wipeD s3 vs)
    | _ => False) fun _ _ _ => False) (dLcL g tt te vs Q r acc (wipeD s2 vs))) fun _ _ _ => False := by unfold dLcL; rfl
def dLc (ti : TDI) (g : TDG) (tt : TDT) (te : TD) (vs : List Nat) : TD := fun sl Q E => ti sl (fun ds s1 => dLcL g tt te vs Q ds [] (wipeD s1 vs)) E
def dYes : TDT := fun sl Q _ => Q true sl
def DTs (X : Cx) (W : WX) (ifs : List Expr) (t : TDT) : Prop := PTs X ifs (upT X.K W t)
abbrev W0 : WX := fun _ _ _ _ => False
section
variable {X : Cx} {W : WX}
theorem dts_nil : DTs X W [] dYes := ⟨fun pins s σ H Q I ⟨G, so, sl, Q', E, rep, q, hq, hx⟩ => pts_nil.run pins s σ H Q I (hq true H G sl (.refl rep) q)⟩
theorem dts_one {c : Expr} {t : TDT} (h : DT X W c t) : DTs X W [c] t := pts_one h
section
variable {K : PySem.W.Frag} {G : Hp} {so : So} {σ : L2.St} {H : Hp} {sl : DSt} {vs : List Nat}
theorem wipeD_some {i : Nat} {x : DV} : ∀ {vs : List Nat}, (wipeD sl vs)[i]? = some (some x) → sl[i]? = some (some x) ∧ i ∉ vs
  | [], h => ⟨h, by simp⟩
  | v :: vs, h => by
    unfold wipeD at h
    rcases get_set h with ⟨rfl, e⟩ | ⟨ne, e⟩
    · cases e
    · obtain ⟨q1, q2⟩ := wipeD_some e
      exact ⟨q1, fun z => (List.mem_cons.mp z).elim ne q2⟩
theorem wipeD_len : ∀ (vs : List Nat), (wipeD sl vs).length = sl.length
  | [] => rfl
  | v :: vs => by unfold wipeD; rw [List.length_set, wipeD_len vs]
theorem own_wipe {c : Addr} (h : Own (wipeD sl vs) (wipe σ vs) c) : Own sl σ c := by
  obtain ⟨i, o, e1, e2⟩ := h
  exact ⟨i, o, (wipeD_some e1).1, (wipe_some e2).1⟩
theorem Rep.wipe (r : Rep K G so σ H sl) (vs : List Nat) : Rep K G so (L2.wipe σ vs) H (wipeD sl vs) :=
  ⟨r.h, by rw [wipeD_len, wipe_length]; exact r.len, fun i d e => by
    obtain ⟨e1, n⟩ := wipeD_some e
    obtain ⟨v, f1, f2⟩ := r.slots i d e1
    exact ⟨v, by rw [wipe_out n]; exact f1, f2⟩,
    fun i j o o' a e1 e2 e3 e4 => r.sep i j o o' a (wipeD_some e1).1 (wipeD_some e2).1 (wipe_some e3).1 (wipe_some e4).1,
    fun i o a e1 e2 z => r.bor i o a (wipeD_some e1).1 (wipe_some e2).1 (own_wipe z), fun i o e => r.nse i o (wipeD_some e).1⟩
/-- fewer slots known -/
theorem Rep.wipe2 (r : Rep K G so σ H sl) (vs : List Nat) (hv : ∀ i ∈ vs, σ[i]? = σ[i]?) : Rep K G so σ H (wipeD sl vs) :=
  ⟨r.h, by rw [wipeD_len]; exact r.len, fun i d e => r.slots i d (wipeD_some e).1,
    fun i j o o' a e1 e2 e3 e4 => r.sep i j o o' a (wipeD_some e1).1 (wipeD_some e2).1 e3 e4,
    fun i o a e1 e2 ⟨j, o', f1, f2⟩ => r.bor i o a (wipeD_some e1).1 e2 ⟨j, o', (wipeD_some f1).1, f2⟩, fun i o e => r.nse i o (wipeD_some e).1⟩
theorem wipe_eq {σ1 σ2 : L2.St} (hl : σ1.length = σ2.length) (h : ∀ j, j ∉ vs → σ1[j]? = σ2[j]?) : wipe σ1 vs = wipe σ2 vs := by
  have z : ∀ (σ : L2.St) (j : Nat) (vs : List Nat), j ∈ vs → j < σ.length → (wipe σ vs)[j]? = some none := by
    intro σ j vs
    induction vs with
    | nil => intro h; simp at h
    | cons v r ih =>
      intro hm hj
      unfold wipe
      by_cases e : v = j
      · subst e; rw [List.getElem?_set_self (by rw [wipe_length]; exact hj)]
      · rw [List.getElem?_set_ne e]
        rcases List.mem_cons.mp hm with q | q
        · exact absurd q.symm e
        · exact ih q hj
  refine List.ext_getElem? fun j => ?_
  by_cases m : j ∈ vs
  · by_cases hj : j < σ1.length
    · rw [z σ1 j vs m hj, z σ2 j vs m (by rw [← hl]; exact hj)]
    · rw [List.getElem?_eq_none (by rw [wipe_length]; omega), List.getElem?_eq_none (by rw [wipe_length]; omega)]
  · rw [wipe_out m, wipe_out m]; exact h j m
theorem wipe_twice (vs : List Nat) : L2.wipe (L2.wipe σ vs) vs = L2.wipe σ vs := wipe_eq (wipe_length σ vs) fun j m => wipe_out m
/-- back from the block -/
theorem Post.unwipe {H1 G1 : Hp} {s1 : DSt} (r : Rep K G so σ H sl) (p : Post K G so (L2.wipe σ vs) H (wipeD sl vs) H1 G1 s1) : Post K G so σ H sl H1 G1 s1 := by
  have lk : ∀ (i : Nat) (dv : DV), s1[i]? = some (some dv) → (L2.wipe σ vs)[i]? = σ[i]? := fun i dv e => by
    obtain ⟨v, f1, _⟩ := p.rep.slots i dv e
    rw [f1, (wipe_some f1).1]
  have ow : ∀ c, Own s1 σ c → Own s1 (L2.wipe σ vs) c := fun c ⟨i, o, e1, e2⟩ => ⟨i, o, e1, by rw [lk i _ e1]; exact e2⟩
  refine ⟨p.ex, ⟨p.rep.h, by rw [p.rep.len, wipe_length], fun i dv e => ?_, fun i j o o' a e1 e2 e3 e4 => ?_, fun i o a e1 e2 z => ?_, p.rep.nse⟩, p.keep, fun a n g s w => p.frm a n g s fun z => w (own_wipe z), fun a z => own_wipe (p.sub a (ow a z)), fun i o e => let ⟨o1, e1⟩ := p.bsub i o e; ⟨o1, (wipeD_some e1).1⟩⟩
  · obtain ⟨v, f1, f2⟩ := p.rep.slots i dv e
    exact ⟨v, (wipe_some f1).1, f2⟩
  · exact p.rep.sep i j o o' a e1 e2 (by rw [lk i _ e1]; exact e3) (by rw [lk j _ e2]; exact e4)
  · exact p.rep.bor i o a e1 (by rw [lk i _ e1]; exact e2) (ow a z)
end
variable {elt tg iter : Expr} {ifs : List Expr} {scope : Scope} {own : List (Str × Nat)} {pos spos : Pos} {ti : TDI} {g : TDG} {tt : TDT} {te : TD} {ix : List Nat}
theorem up_lc {K : PySem.W.Frag} {n : Nat} {g' : TG} {σ : L2.St} {H : Hp} {R : VK} (vs : List Nat) (hl : σ.length = n) (sg : GSem K n ix g' g) (hix : ∀ j, j ∈ ix → j ∈ vs) (h : up K W (dLc ti g tt te vs) σ H R) : tLc (upI K W ti) g' (upT K W0 tt) (up K W0 te) vs σ H R := by
  obtain ⟨G, so, sl, Q, E, rep, q, hq, hx⟩ := h
  refine ⟨G, so, sl, _, E, rep, q, fun J H1 G1 ds s1 p0 it q1 => ?_, hx⟩
  obtain ⟨ps, prot, goes, stops, yields⟩ := it
  intro C hC
  have nsC : so.Nt C := p0.rep.h.there hC
  have rw1 := p0.rep.wipe vs
  have psC : ∀ a ∈ ps, a ≠ C := fun a ha z => (prot a ha).1 (z ▸ hC)
  -- the list so far stands at C; all else is as behind an expression
  refine ⟨fun i m H' => m = ds.length - i ∧ i ≤ ds.length ∧ ∃ G' sl' us acc, Post K G1 so (L2.wipe σ vs) H1 (wipeD s1 vs) H' G' sl' ∧ H' C = some (.lst us) ∧ G' C = none ∧ DAll K G' us acc ∧ dLcL g tt te vs Q (ds.drop i) acc sl',
    ⟨ds.length, by simp, Nat.zero_le _, G1, _, [], [], ?_, upd_same, p0.rep.h.ex.free hC, .nil, q1⟩, ?_⟩
  · have pv := PostV.list (K := K) (G := G1) (so := so) (ds := []) rw1.h hC .nil
    exact (pv.slots rw1).toPost
  rintro i m H' ⟨rfl, hi, G', sl', us, acc, t, hCl, gC, al, q2⟩
  have same : ∀ a ∈ ps, H' a = H1 a := fun a ha => by
    obtain ⟨n1, s, w⟩ := prot a ha
    exact keep_ne t.keep n1 s
  have noC : ∀ {sl'' : DSt} {σ'' : L2.St}, (∀ a, Own sl'' σ'' a → Own (wipeD s1 vs) (L2.wipe σ vs) a) → ¬ Own sl'' σ'' C := fun f z => (p0.rep.nown (own_wipe (f C z))).1 hC
  have borC : ∀ (j : Nat) (o : OO), (wipeD s1 vs)[j]? = some (some (.bor o)) → (L2.wipe σ vs)[j]? = some (some (.ref C)) → False := fun j o e1 e2 => by
    obtain ⟨v, f1, f2⟩ := rw1.slots j _ e1
    rw [e2] at f1; cases f1
    obtain ⟨b, z, _, k⟩ := f2
    cases z
    exact k.there hC
  by_cases hlt : i < ds.length
  · refine .inr ⟨goes i H' hlt same, fun H'' => ∃ G'' sl'' us' acc', Post K G1 so (L2.wipe σ vs) H1 (wipeD s1 vs) H'' G'' sl'' ∧ H'' C = some (.lst us') ∧ G'' C = none ∧ DAll K G'' us' acc' ∧ dLcL g tt te vs Q (ds.drop (i + 1)) acc' sl'',
      fun H'' ⟨G'', sl'', us', acc', h1, h2, h3, h4, h5⟩ => ⟨ds.length - (i + 1), by omega, rfl, hlt, G'', sl'', us', acc', h1, h2, h3, h4, h5⟩, fun x H2 y => ?_⟩
    obtain ⟨d, G2, ed, pv⟩ := yields i H' x H2 G' same t.ex t.rep.h y hlt
    have pe := pv.slots t.rep
    have C2 : H2 C = some (.lst us) := pe.keep C _ hCl nsC
    have g2 : G2 C = none := pe.frm C (by rw [hCl]; simp) gC nsC (noC t.sub)
    rw [List.drop_eq_getElem_cons hlt] at q2
    have ed' : ds[i] = d := by rw [List.getElem?_eq_getElem hlt] at ed; exact Option.some.inj ed
    rw [ed', lcL_cons] at q2
    refine sg G2 so _ H2 sl' x d _ _ ((wipe_length σ vs).trans hl) pe.rep pe.val q2 fun σ3 sl3 t3 u3 q3 => ?_
    have e3 : L2.wipe σ3 vs = L2.wipe σ vs := by
      rw [← wipe_twice (σ := σ) vs]
      exact wipe_eq t3.ln fun j hj => (u3 j fun z => hj (hix j z)).1
    have sub3 : ∀ a, Own (wipeD sl3 vs) (L2.wipe σ3 vs) a → Own (wipeD s1 vs) (L2.wipe σ vs) a := fun a z => by
      rw [e3] at z
      by_cases w : Own sl' (L2.wipe σ vs) a
      · exact t.sub a w
      · obtain ⟨j, o, z1, z2⟩ := z
        have z2' : σ3[j]? = some (some (.ref a)) := by
          rw [← e3] at z2; exact (wipe_some z2).1
        have ow3 : Own sl3 σ3 a := ⟨j, o, (wipeD_some z1).1, z2'⟩
        obtain ⟨n1, g1, s1'⟩ := t3.rep.nown ow3
        exact absurd ow3 (t3.sub a n1 s1' w)
    have sub3' : ∀ a, Own sl3 σ3 a → Own sl' (L2.wipe σ vs) a := fun a z => by
      by_cases w : Own sl' (L2.wipe σ vs) a
      · exact w
      · obtain ⟨n1, g1, s1'⟩ := t3.rep.nown z
        exact absurd z (t3.sub a n1 s1' w)
    have bs3 : ∀ (j : Nat) (o : OO), sl3[j]? = some (some (.bor o)) → j ∉ vs → ∃ o', (wipeD s1 vs)[j]? = some (some (.bor o')) := fun j o e n => by
      rw [(u3 j fun z => n (hix j z)).2] at e
      exact t.bsub j o e
    refine ⟨e3, G2, so, sl3, _, fun _ _ _ => False, t3.rep, q3, fun b H4 G4 s4 p4 q4 => ?_, fun _ _ _ _ _ _ _ _ z => z⟩
    have C4 : H4 C = some (.lst us) := p4.keep C _ C2 nsC
    have n3C : ¬ Own sl3 σ3 C := fun z => noC t.sub (sub3' C z)
    have g4 : G4 C = none := p4.frm C (by rw [C2]; simp) g2 nsC n3C
    have k4 : ∀ a o, H1 a = some o → so.Nt a → H4 a = some o := fun a o e s => p4.keep a o (pe.keep a o (t.keep a o e s) s) s
    have f4 : ∀ a, H1 a ≠ none → G1 a = none → so.Nt a → ¬ Own (wipeD s1 vs) (L2.wipe σ vs) a → G4 a = none := fun a n1 g1 s w => by
      have n2 : ¬ Own sl' (L2.wipe σ vs) a := fun z => w (t.sub a z)
      have h' : H' a ≠ none := by rw [keep_ne t.keep n1 s]; exact n1
      have h2 : H2 a ≠ none := by rw [keep_ne pe.keep h' s]; exact h'
      exact p4.frm a h2 (pe.frm a h' (t.frm a n1 g1 s w) s n2) s fun z => n2 (sub3' a z)
    have bs4 : ∀ (j : Nat) (o : OO), s4[j]? = some (some (.bor o)) → j ∉ vs → ∃ o', (wipeD s1 vs)[j]? = some (some (.bor o')) := fun j o e n => by
      obtain ⟨o1, e1⟩ := p4.bsub j o e
      exact bs3 j o1 e1 n
    cases b with
    | false =>
      refine iteF ⟨G4, wipeD s4 vs, us, acc, ⟨t.ex.trans (pe.ex.trans p4.ex), ?_, k4, f4, fun a z => ?_, fun j o e => bs4 j o (wipeD_some e).1 (wipeD_some e).2⟩, C4, g4, al.mono (pe.ex.trans p4.ex), (brf q4)⟩
      · have r := p4.rep.wipe vs; rw [e3] at r; exact r
      · refine t.sub a (sub3' a (p4.sub a (own_wipe (vs := vs) ?_)))
        rw [e3]; exact z
    | true =>
      refine iteT ⟨G4, so, s4, _, fun _ _ _ => False, p4.rep, (brt q4), fun y H5 G5 dy s5 p5' q5 => ?_, fun _ _ _ _ _ _ _ _ z => z⟩
      obtain ⟨G6, p5⟩ := p5'.pub
      have wv := p5.val
      split at q5
      · rename_i yd ey
        rw [ey] at wv
        have n4C : ¬ Own s4 σ3 C := fun z => n3C (p4.sub C z)
        have C5 : H5 C = some (.lst us) := p5.keep C _ C4 nsC
        have g5 : G6 C = none := p5.frm C (by rw [C4]; simp) g4 nsC n4C
        have k5 : ∀ a o, H1 a = some o → so.Nt a → H5 a = some o := fun a o e s => p5.keep a o (k4 a o e s) s
        have f5 : ∀ a, H1 a ≠ none → G1 a = none → so.Nt a → ¬ Own (wipeD s1 vs) (L2.wipe σ vs) a → G6 a = none := fun a n1 g1 s w => by
          have n2 : ¬ Own sl' (L2.wipe σ vs) a := fun z => w (t.sub a z)
          have h4 : H4 a ≠ none := by rw [keep_ne k4 n1 s]; exact n1
          exact p5.frm a h4 (f4 a n1 g1 s w) s fun z => n2 (sub3' a (p4.sub a z))
        have bs5 : ∀ (j : Nat) (o : OO), s5[j]? = some (some (.bor o)) → j ∉ vs → ∃ o', (wipeD s1 vs)[j]? = some (some (.bor o')) := fun j o e n => by
          obtain ⟨o1, e1⟩ := p5.bsub j o e
          exact bs4 j o1 e1 n
        have al5 : DAll K G6 us acc := al.mono (pe.ex.trans (p4.ex.trans p5.ex))
        have lu : us.length = acc.length := al5.length
        refine ⟨us, C5, by rw [lu, ← szl_eq]; exact q5.1, G6, wipeD s5 vs, us ++ [y], acc ++ [yd], ⟨t.ex.trans (pe.ex.trans (p4.ex.trans p5.ex)), ?_, fun a o e s => ?_, f5, fun a z => ?_, fun j o e => bs5 j o (wipeD_some e).1 (wipeD_some e).2⟩, upd_same, g5, al5.append (.cons wv .nil), q5.2⟩
        · have r := p5.rep.wipe vs
          rw [e3] at r
          -- the heap changes at C alone
          refine ⟨⟨fun a o e => ?_, fun a k e => ?_, r.h.ok⟩, r.len, fun j dv e => ?_, r.sep, r.bor, r.nse⟩
          · rw [upd_ne (ne_of_none e g5)]; exact r.h.ex a o e
          · exact (r.h.vol a k e).keep (Ex.refl _) (r.h.vol a k e).g (upd_ne fun z => nsC (z ▸ ⟨k, e⟩))
          · obtain ⟨v, f1, f2⟩ := r.slots j dv e
            refine ⟨v, f1, ?_⟩
            have key : ∀ a : Addr, a ≠ C → (upd H5 C (.lst (us ++ [y]))) a = H5 a := fun a z => upd_ne z
            cases dv with
            | d z => exact f2
            | src => exact f2
            | own o =>
              obtain ⟨a, r1, r2, r3, r4⟩ := f2
              subst r1
              have z : a ≠ C := fun z => by
                subst z
                exact noC (fun a z => t.sub a (sub3' a (p4.sub a (p5.sub a (own_wipe (vs := vs) (by rw [e3]; exact z)))))) ⟨j, o, e, f1⟩
              exact ⟨a, rfl, r2, r3, r4.keep (Ex.refl _) (key a z)⟩
            | bor o =>
              obtain ⟨a, r1, r3, r4⟩ := f2
              subst r1
              have z : a ≠ C := fun z => by
                subst z
                obtain ⟨o1, z1⟩ := bs5 j o (wipeD_some e).1 (wipeD_some e).2
                exact borC j o1 z1 f1
              exact ⟨a, rfl, r3, r4.keep (Ex.refl _) (key a z)⟩
            | see o => exact absurd e (r.nse j o)
        · rw [upd_ne (fun z => by subst z; rw [hC] at e; cases e)]; exact k5 a o e s
        · exact t.sub a (sub3' a (p4.sub a (p5.sub a (own_wipe (vs := vs) (by rw [e3]; exact z)))))
      · exact q5.elim
  · have e : i = ds.length := by omega
    subst e
    rw [List.drop_length, lcL_nil] at q2
    refine .inl ⟨stops H' same, hq _ H' G' _ sl' ?_ q2⟩
    have pu := t.unwipe p0.rep
    refine (p0.thenE { pu with val := ⟨C, rfl, gC, nsC, us, hCl, al⟩, new := fun a o _ z => ?_, sepv := fun a o _ z w => ?_, nbs := fun a o j o' _ z e1 e2 => ?_ })
    · cases z; exact .inl hC
    · cases z; exact (p0.rep.nown (pu.sub _ w)).1 hC
    · cases z
      obtain ⟨o1, z1⟩ := t.bsub j o' e1
      have lkj : (L2.wipe σ vs)[j]? = some (some (.ref C)) := by rw [wipe_out (wipeD_some z1).2]; exact e2
      exact borC j o1 z1 lkj
/-- as a value -/
theorem de_lc {g' : TG} (hc : X.calm = true) (hN : X.N.Nodup) (hi : DI X W tg iter ti) (ok : BlkOk X.N X.env.scope scope own)
    (hg : ∀ s H C cl fp, DG (X.blk s H scope (compEnvC scope cl C X.env) fp) ix tg g' g) (ht : ∀ s H C cl fp, DTs (X.blk s H scope (compEnvC scope cl C X.env) fp) W0 ifs tt)
    (he : ∀ s H C cl fp, DE (X.blk s H scope (compEnvC scope cl C X.env) fp) W0 elt te) (hix : ∀ j, j ∈ ix → j ∈ own.map (·.2) := by decide) (hs : ∀ x, foldedSetIterable iter X.env x = pure x := by intro _; rfl) :
    DE X W (.ListComp elt [⟨tg, iter, ifs, 0⟩] scope pos) (dLc ti g tt te (own.map (·.2))) := by
  have b := pe_lc (tt := upT X.K W0 tt) (te := up X.K W0 te) (ifs := ifs) (elt := elt) (pos := pos) hc hN hi ok (fun s H C cl fp => (hg s H C cl fp).pg) ht he hs
  exact ⟨fun pins s σ H Q I q => b.run pins s σ H Q I (up_lc _ I.len (hg s H 0 [] []).sem hix q)⟩
/-- name = [..] -/
theorem ds_setLc {g' : TG} {i : Nat} {y : Str} {py : Pos} (hc : X.calm = true) (hN : X.N.Nodup) (hy : X.N[i]? = some y) (hyl : X.env.scope.names.lookup y = some .local) (hsw : swapsWith (.ListComp elt [⟨tg, iter, ifs, 0⟩] scope pos) (some (.Name y py)) spos.line X.env = pure true)
    (hi : DI X W tg iter ti) (ok : BlkOk X.N X.env.scope scope own)
    (hg : ∀ s H C cl fp, DG (X.blk s H scope (compEnvC scope cl C X.env) fp) ix tg g' g) (ht : ∀ s H C cl fp, DTs (X.blk s H scope (compEnvC scope cl C X.env) fp) W0 ifs tt)
    (he : ∀ s H C cl fp, DE (X.blk s H scope (compEnvC scope cl C X.env) fp) W0 elt te) (hix : ∀ j, j ∈ ix → j ∈ own.map (·.2) := by decide) (hs : ∀ x, foldedSetIterable iter X.env x = pure x := by intro _; rfl) :
    DS X W (.Assign [.Name y py] (.ListComp elt [⟨tg, iter, ifs, 0⟩] scope pos) spos) (dSet (dLc ti g tt te (own.map (·.2))) i) := by
  have b := ps_setLc (tt := upT X.K W0 tt) (te := up X.K W0 te) (pos := pos) (spos := spos) (py := py) hc hN hy hyl hsw hi ok (fun s H C cl fp => (hg s H C cl fp).pg) ht he hs
  refine ⟨fun pins s σ H D I q => b.run pins s σ H D I ?_⟩
  have q2 := up_set (K := X.K) (W := W) (te := dLc ti g tt te (own.map (·.2))) (i := i) (D := D) (σ := σ) (H := H) (fun _ => by rw [I.len]; exact (List.getElem?_eq_some_iff.mp hy).1) q
  exact up_lc _ I.len (hg s H 0 [] []).sem hix q2
end
end DL

set_option Elab.async false
set_option linter.all false
set_option maxRecDepth 100000
set_option autoImplicit false
set_option maxHeartbeats 2000000
namespace DL
open PySem PySem.Spec PyProof.Rows L2

/-! ### promises of defs over trees -/
theorem takes0 {X : Cx} : L2N.Takes X (fun _ _ _ _ => False) := fun _ _ ⟨_, _, _, _, _, _, _, _, _, _, _, _, _, _, _, _, z⟩ => z.elim
theorem tkOf {X : Cx} {E : XK} (hs : X.stack = X.env :: X.outer) (hf : X.env.frame = some X.env.locals) (hex : X.ex = []) {E₁ : Value → Shared → Prop}
    (hx : X.xe = fun e s' => wpAny (model X.prog X.w) X.A (leaving X.env e) (fun _ s'' => L2N.CX X.prog X.w X.outer X.H_0 X.s_0 E e s'') E₁ s') : L2N.Takes X (fun cls d _ H => E cls d H) := L2N.takes_of hs hf hex hx
abbrev XE' := Value → List (Str × D) → Prop
abbrev SpD := List DV → (DV → Prop) → XE' → Prop
structure PostH (K : PySem.W.Frag) (G : Hp) (so : So) (H : Hp) (H' G' : Hp) : Prop where
  ex : Ex G G'
  hrep : HRep K G' so H'
  keep : ∀ a o, H a = some o → so.Nt a → H' a = some o
  frm : ∀ a, H a ≠ none → G a = none → so.Nt a → G' a = none
def upSp (K : PySem.W.Frag) (sp : SpD) : Sp := fun vs H Q E => ∃ G so args QD ED, HRep K G so H ∧ VsOk K G so H vs args ∧ sp args QD ED ∧ (∀ v H' G' dv, PostV K G so H v H' G' dv → QD dv → Q v H') ∧
  (∀ cls d H' G' fs, PostH K G so H H' G' → XdOk K G' H' d fs → ED cls fs → E cls d H')
/-- the def at f keeps the promise sp; nothing is being shown by repr around it -/
structure FnG (P : Program) (w : World) (K : PySem.W.Frag) (mg : Str → Option Value) (base : Heap) (k : Nat) (f : Addr) (fd : FuncData) (ps : List Str) (sp : SpD) : Prop where
  len : ∀ args Q E, sp args Q E → args.length = ps.length
  run : ∀ (A : Around) (outer : List Env) (s : Shared) (H : Hp) (args : Args) (us : List Value) (vs : List V) (Q : VK) (E : XK), Room k A → A.guards = some [] → Env0 P w K mg base A outer s H → BindsTo s fd args (ps.zip us) → Vals vs us → upSp K sp vs H Q E →
    codeAny (model P w) A (.call (.ref f) args) (CR (L2N.CX P w) outer P w H s Q E) s
theorem FnG.mono {P : Program} {w : World} {K : PySem.W.Frag} {mg : Str → Option Value} {base : Heap} {j k : Nat} {f : Addr} {fd : FuncData} {ps : List Str} {sp : SpD} (F : FnG P w K mg base j f fd ps sp) (h : j ≤ k) : FnG P w K mg base k f fd ps sp :=
  ⟨F.len, fun A outer s H args us vs Q E hr => F.run A outer s H args us vs Q E (hr.mono h)⟩
theorem FnG.imp {P : Program} {w : World} {K : PySem.W.Frag} {mg : Str → Option Value} {base : Heap} {k : Nat} {f : Addr} {fd : FuncData} {ps : List Str} {sp sp' : SpD} (F : FnG P w K mg base k f fd ps sp) (h : ∀ a Q E, sp' a Q E → sp a Q E) : FnG P w K mg base k f fd ps sp' :=
  ⟨fun a Q E q => F.len a Q E (h _ _ _ q), fun A outer s H args us vs Q E hr hg e0 hb hv ⟨G, so, as, QD, ED, r, v, q, z1, z2⟩ => F.run A outer s H args us vs Q E hr hg e0 hb hv ⟨G, so, as, QD, ED, r, v, h _ _ _ q, z1, z2⟩⟩

def startD (N : List Str) (args : List DV) : DSt := args.map some ++ List.replicate (N.length - args.length) none
theorem VsOk.get {K : PySem.W.Frag} {G : Hp} {so : So} {H : Hp} : ∀ {vs : List V} {ds : List DV} {i : Nat} {d : DV}, VsOk K G so H vs ds → ds[i]? = some d → ∃ v, vs[i]? = some v ∧ VOk K G so H v d ∧ ∀ o, d ≠ .own o
  | _, _, _, _, .nil, e => by simp at e
  | _, _, 0, _, .cons h n _, e => by simp at e; subst e; exact ⟨_, rfl, h, n⟩
  | _, _, i + 1, _, .cons _ _ t, e => by
    obtain ⟨v, h1, h2⟩ := VsOk.get (i := i) t (by simpa using e)
    exact ⟨v, by simpa using h1, h2⟩
theorem start_get {N : List Str} {args : List DV} {i : Nat} {d : DV} (h : (startD N args)[i]? = some (some d)) : args[i]? = some d := by
  unfold startD at h
  by_cases hi : i < args.length
  · rw [List.getElem?_append_left (by simpa using hi), List.getElem?_map] at h
    cases e : args[i]? with
    | none => rw [e] at h; cases h
    | some a => rw [e] at h; cases h; rfl
  · rw [List.getElem?_append_right (by simpa using hi), List.getElem?_replicate] at h
    split at h <;> cases h
theorem rep_start {K : PySem.W.Frag} {G : Hp} {so : So} {H : Hp} {N : List Str} {vs : List V} {args : List DV} (h : HRep K G so H) (w : VsOk K G so H vs args) (ns : ∀ (i : Nat) (o : OO), args[i]? ≠ some (.see o)) : Rep K G so (L2.start N vs) H (startD N args) := by
  have lv := w.length
  have no : ∀ a, ¬ Own (startD N args) (L2.start N vs) a := fun a ⟨i, o, e, _⟩ => by
    obtain ⟨_, _, _, n⟩ := w.get (start_get e)
    exact n o rfl
  refine ⟨h, by unfold startD L2.start; simp [lv], fun i d e => ?_, fun i j o o' a e1 _ _ _ => ?_, fun i o a _ _ => no a, fun i o e => ns i o (start_get e)⟩
  · obtain ⟨v, e1, e2, _⟩ := w.get (start_get e)
    refine ⟨v, ?_, e2⟩
    unfold L2.start
    have hi : i < vs.length := (List.getElem?_eq_some_iff.mp e1).1
    rw [List.getElem?_append_left (by simpa using hi), List.getElem?_map, e1]; rfl
  · obtain ⟨_, _, _, n⟩ := w.get (start_get e1)
    exact absurd rfl (n o)
/-- what a def may hand back -/
def retQ (Q : DV → Prop) : DV → Prop
  | .see _ => False
  | .bor _ => False
  | v => Q v
theorem retQ_of {Q : DV → Prop} {v : DV} (h : retQ Q v) : (∀ o, v ≠ .bor o) ∧ Q v := by
  cases v with
  | d x => exact ⟨fun _ z => (nomatch z), h⟩
  | src => exact ⟨fun _ z => (nomatch z), h⟩
  | own o => exact ⟨fun _ z => (nomatch z), h⟩
  | bor o => exact h.elim
  | see o => exact h.elim
theorem deeper_guards (A : Around) (env : Env) : (A.deeper env).guards = A.guards := rfl
/-- THE RULE for a def: t is its body's reading -/
theorem fnG_of {P : Program} {w : World} {K : PySem.W.Frag} {mg : Str → Option Value} {base : Heap} {x qual : Str} {params : Arguments} {body : List Stmt} {scope : Scope} {dvs : List V} {kws : List (Str × V)} {f : Addr} {fd : FuncData} {N ps : List Str} {k : Nat} {sp : SpD} {t : TDS}
    (F : FunD K x qual params body scope dvs kws f fd) (S : FnScope N ps scope) (len : ∀ args Q E, sp args Q E → args.length = ps.length) (nsee : ∀ args Q E, sp args Q E → ∀ (i : Nat) (o : OO), args[i]? ≠ some (.see o))
    (hd : ∀ (cdv : Value) (A : Around) (outer : List Env) (s : Shared) (H : Hp) (E : XK), Room k (A.deeper (envOfC qual scope s.heap.objs.size f cdv)) → (cxOf (L2N.CX P w) P w K mg base N qual scope f cdv A outer s H E).A.guards = some [] →
      DSs (cxOf (L2N.CX P w) P w K mg base N qual scope f cdv A outer s H E) (fun cls d _ H' => E cls d H') body t)
    (hr : ∀ args Q E, sp args Q E → t { nx := fun _ => Q (.d .non), rt := retQ Q, bk := fun _ => False, ct := fun _ => False, xc := fun cls fs _ => E cls fs } (startD N args)) : FnG P w K mg base (k + 1) f fd ps sp := by
  obtain ⟨oc, od, dV, kV, doc, pm, an, cdv, ct, osl, rfl, lk, hcd, _, _⟩ := F.ex
  refine ⟨len, fun A outer s H args us vs Q E hroom hg e0 hb r hsp => ?_⟩
  obtain ⟨G, so, as, QD, ED, hrep, wv, q, hq, hx⟩ := hsp
  have hl : vs.length = ps.length := wv.length.trans (len _ _ _ q)
  have KX : K.In s.heap := e0.mod.kin.keeps fun b o e => (e0.bs b o e).1
  have lim : s.heap.NoLimit := e0.mod.nolimit.keeps fun b o e => (e0.bs b o e).1
  have hkind : ((ps.zip us).all fun y => scope.names.lookup y.1 == some .local || scope.names.lookup y.1 == some .cell) = true := by
    rw [List.all_eq_true]
    rintro ⟨n, u⟩ hy
    rcases S.par n (List.of_mem_zip hy).1 with z | z
    · show (scope.names.lookup n == some .local || _) = true
      rw [z]; rfl
    · show (scope.names.lookup n == some .local || scope.names.lookup n == some .cell) = true
      rw [z]; rfl
  refine Att.call_fn KX lim lk hcd hroom.depth hb hkind (fun s1 x => ?_) S.co S.gen S.kind
  have I := inv_start (CX := L2N.CX P w) (E := E) S hroom.hd e0 hl r x
  have rep : Rep K G so (L2.start N vs) H (startD N as) := rep_start hrep wv (nsee _ _ _ q)
  have no : ∀ a, ¬ Own (startD N as) (L2.start N vs) a := fun a ⟨i, o, e, _⟩ => by
    obtain ⟨_, _, _, n⟩ := wv.get (start_get e)
    exact n o rfl
  have body := (hd cdv A outer s H E (hroom.deeper _) hg).run [] s1 (L2.start N vs) H { nx := fun _ H' => Q .non H', rt := Q } I ⟨G, so, startD N as, _, rep, hr as QD ED q,
    ⟨fun σ' H' G' sl' p z => hq .non H' G' (.d .non) ⟨p.ex, p.rep.h, fun a o e sa => p.keep a o e sa (no a), fun a n g sa => p.frm a n g sa (no a), .non, fun _ _ e => (nomatch e), fun _ e => (nomatch e)⟩ z,
     fun _ _ _ _ _ z => z.elim, fun _ _ _ _ _ z => z.elim,
     fun v H' G' dv p z => hq v H' G' dv ⟨p.ex, p.hrep, fun a o e sa => p.keep a o e sa (no a), fun a n g sa => p.frm a n g sa (no a), p.val, fun a o e e2 => (p.new a o e e2).elim (fun k => k) fun k => absurd k (no a), (retQ_of z).1⟩ (retQ_of z).2,
     fun cls d σ' H' G' fs sl' p z1 z2 => hx cls d H' G' fs ⟨p.ex, p.rep.h, fun a o e sa => p.keep a o e sa (no a), fun a n g sa => p.frm a n g sa (no a)⟩ z1 z2⟩⟩
  refine wpAny_mono body (fun fl s' hs => ?_) fun e s' hs => hs
  cases fl with
  | ret u =>
    obtain ⟨v, σ', H', J, rv, z⟩ := hs
    exact ⟨v, H', J.os, J.bare, J.base, J.hok, rv, z⟩
  | next =>
    obtain ⟨σ', H', J, z⟩ := hs
    exact ⟨.non, H', J.os, J.bare, J.base, J.hok, rfl, z⟩
  | brk =>
    obtain ⟨_, _, _, z⟩ := hs
    exact False.elim z
  | cont =>
    obtain ⟨_, _, _, z⟩ := hs
    exact False.elim z

/-! ### how arguments come to parameters -/
inductive Sel where
  | pos (i : Nat) | kw (j : Nat) | dfl (v : V) (d : D)
def pickV (vs qs : List V) : Sel → V
  | .pos i => vs.getD i .non
  | .kw j => qs.getD j .non
  | .dfl v _ => v
def pickD (vs qs : List DV) : Sel → DV
  | .pos i => vs.getD i (.d .non)
  | .kw j => qs.getD j (.d .non)
  | .dfl _ d => .d d
/-- n positional values, keywords named ks -/
structure Bd (K : PySem.W.Frag) (fd : FuncData) (ps : List Str) (n : Nat) (ks : List Str) (sel : List Sel) : Prop where
  to : ∀ (s : Shared) (us ws : List Value) (vs qs : List V), K.In s.heap → us.length = n → ws.length = ks.length → Vals vs us → Vals qs ws → ∃ zs, BindsTo s fd ⟨us, ks.zip ws⟩ (ps.zip zs) ∧ Vals (sel.map (pickV vs qs)) zs
  dok : ∀ s ∈ sel, ∀ (v : V) (d : D), s = .dfl v d → ∀ G, DOk K G v d
theorem VsOk.getD {K : PySem.W.Frag} {G : Hp} {so : So} {H : Hp} : ∀ {vs : List V} {ds : List DV} (i : Nat), VsOk K G so H vs ds → VOk K G so H (vs.getD i .non) (ds.getD i (.d .non)) ∧ ∀ o, ds.getD i (.d .non) ≠ .own o
  | _, _, _, .nil => ⟨.non, fun _ e => (nomatch e)⟩
  | _, _, 0, .cons h n _ => ⟨h, n⟩
  | _, _, i + 1, .cons _ _ t => VsOk.getD i t
theorem VsOk.pick {K : PySem.W.Frag} {G : Hp} {so : So} {H : Hp} {vs qs : List V} {ds es : List DV} (h : VsOk K G so H vs ds) (h2 : VsOk K G so H qs es) : ∀ (sel : List Sel), (∀ s ∈ sel, ∀ (v : V) (d : D), s = .dfl v d → ∀ G, DOk K G v d) → VsOk K G so H (sel.map (pickV vs qs)) (sel.map (pickD ds es))
  | [], _ => .nil
  | .pos i :: r, k => .cons (h.getD i).1 (h.getD i).2 (VsOk.pick h h2 r fun s hs => k s (List.mem_cons_of_mem _ hs))
  | .kw j :: r, k => .cons (h2.getD j).1 (h2.getD j).2 (VsOk.pick h h2 r fun s hs => k s (List.mem_cons_of_mem _ hs))
  | .dfl v d :: r, k => .cons (k _ (List.mem_cons_self ..) v d rfl G) (fun _ e => (nomatch e)) (VsOk.pick h h2 r fun s hs => k s (List.mem_cons_of_mem _ hs))
theorem VsOk.append {K : PySem.W.Frag} {G : Hp} {so : So} {H : Hp} : ∀ {vs qs : List V} {ds es : List DV}, VsOk K G so H vs ds → VsOk K G so H qs es → VsOk K G so H (vs ++ qs) (ds ++ es)
  | _, _, _, _, .nil, s => s
  | _, _, _, _, .cons h n t, s => .cons h n (VsOk.append t s)

/-! ### calls -/
def dCall (sp : SpD) (n m : Nat) (sel : List Sel) (ta tk : TDA) : TD := fun sl Q E => ta sl (fun xs s1 => tk s1 (fun ys s2 => xs.length = n ∧ ys.length = m ∧ sp (sel.map (pickD xs ys)) (fun v => Q v s2) fun cls fs => E cls fs s2) E) E
def DK (X : Cx) (W : WX) (kws : List Keyword) (t : TDA) : Prop := PK X kws (upA X.K W t)
section
variable {X : Cx} {W : WX} {k n : Nat} {f : Addr} {fd : FuncData} {ps ks : List Str} {sp : SpD} {sel : List Sel} {x nm : Str} {p pos kpos : Pos} {e : Expr} {es : List Expr} {kws : List Keyword} {ta tk tk' : TDA} {te : TD}
theorem pk_imp {t t' : TA} (h : PK X kws t) (g : ∀ σ H R, t' σ H R → t σ H R) : PK X kws t' := ⟨fun pos pins s σ H Q I q => h.run pos pins s σ H Q I (g _ _ _ q)⟩
theorem dk_nil : DK X W [] dNil := pk_imp pk_nil fun σ H R ⟨G, so, sl, Q, E, rep, q, hq, _⟩ => hq [] H G [] sl (.refl rep) .nil q
theorem dk_cons (ha : DE X W e te) (hr : DK X W kws tk) : DK X W (⟨nm, e, kpos⟩ :: kws) (dCons te tk) := by
  refine pk_imp (pk_cons ha hr) fun σ H R ⟨G, so, sl, Q, E, rep, q, hq, hx⟩ => ?_
  refine ⟨G, so, sl, _, E, rep, q, fun x H1 G1 dx s1 p1 h1 => ?_, hx⟩
  obtain ⟨G1', p1'⟩ := p1.pub
  refine ⟨G1', so, s1, _, E, p1'.rep, h1, fun vs H2 G2 ds s2 p2 w h2 => ?_, hx.step p1'.toPost⟩
  exact hq (x :: vs) H2 G2 (pubV dx :: ds) s2 (p1'.toPost.trans p2) (.cons (p1'.over p2) (pubV_not dx) w) h2
/-- the callee runs -/
theorem run_fnG {pins : List (Addr × Obj)} {σ : L2.St} {H G : Hp} {so : So} {sl : DSt} {s : Shared} {Q : VK} {us ws : List Value} {vs qs : List V} {ds es : List DV} {Q' : DV → DSt → Prop} {E : XP} (F : FnG X.prog X.w X.K X.mg X.base k f fd ps sp) (hr : Room k X.A) (hg : X.A.guards = some []) (tk : L2N.Takes X W) (hb : Bd X.K fd ps n ks sel)
    (I : Inv X pins σ H s) (rep : Rep X.K G so σ H sl) (r : Vals vs us) (r2 : Vals qs ws) (w : VsOk X.K G so H vs ds) (w2 : VsOk X.K G so H qs es) (l1 : ds.length = n) (l2 : es.length = ks.length)
    (q : sp (sel.map (pickD ds es)) (fun v => Q' v sl) fun cls fs => E cls fs sl) (hq : ∀ v H' G' dv sl', PostE X.K G so σ H sl v H' G' dv sl' → Q' dv sl' → Q v H') (hx : XOk X.K W G so σ H sl E) :
    wpAny (model X.prog X.w) X.A (call (.ref f) us (ks.zip ws)) (EP X pins σ Q) X.xe s := by
  obtain ⟨zs, bt, rz⟩ := hb.to s us ws vs qs I.kIn (by rw [← r.length, w.length, l1]) (by rw [← r2.length, w2.length, l2]) r r2
  have pk := w.pick w2 sel hb.dok
  refine wpAny_call (codeAny_mono (F.run X.A X.stack s H ⟨us, ks.zip ws⟩ zs (sel.map (pickV vs qs)) Q (fun cls d H' => W cls d σ H') hr hg I.env0 bt rz ⟨G, so, _, _, _, rep.h, pk, q, fun v H' G' dv pv z => hq v H' G' dv sl (pv.slots rep) z, fun cls d H' G' fs ph z1 z2 => ?_⟩) fun r s' hz => ?_)
  · have pn : PostV X.K G so H .non H' G' (.d .non) := ⟨ph.ex, ph.hrep, ph.keep, ph.frm, .non, fun _ _ e => (nomatch e), fun _ e => (nomatch e)⟩
    exact hx cls d H' G' fs sl (pn.slots rep).toPost z1 z2
  · cases r with
    | error e => exact tk e s' (L2N.XE.of_call I (fun _ _ _ z => z) hz)
    | ok fl =>
      cases fl with
      | ret u => exact I.after hz
      | next => exact False.elim hz
      | brk => exact False.elim hz
      | cont => exact False.elim hz
theorem de_call (F : FnG X.prog X.w X.K X.mg X.base k f fd ps sp) (hr : Room k X.A) (hgd : X.A.guards = some []) (tk : L2N.Takes X W) (hb : Bd X.K fd ps n [] sel) (hg : Gl X x) (hm : X.mg x = some (.ref f)) (hk : PySem.W.keepIn X.K (.ref f) = true)
    (ha : DA X W (e :: es) ta) (hdb : (x == ("__debug__" : Str)) = false := by decide) (he : starEach (e :: es) X.env = (false, eval e X.env) :: starEach es X.env := by rfl) (hpl : (backTo pos (starEach es X.env)).any (·.1) = false := by rfl) :
    DE X W (.Call (.Name x p) (e :: es) [] pos) (dCall sp n 0 sel ta dNil) := by
  refine ⟨fun pins s σ H Q I ⟨G, so, sl, Q', E, rep, q, hq, hx⟩ => wpAny_Call_Name_kw (ld_glob I hg hm ?_ hdb)⟩
  refine PySem.W.callWith_K (h₀ := X.base) I.ok.mod.kin hk (thn (ha.run pos pins s σ H (fun vs H1 => ∃ G1 ds s1, Post X.K G so σ H sl H1 G1 s1 ∧ VsOk X.K G1 so H1 vs ds ∧ ds.length = n ∧ sp (sel.map (pickD ds [])) (fun v => Q' v s1) fun cls fs => E cls fs s1) I
    ⟨G, so, sl, _, E, rep, q, fun vs H1 G1 ds s1 p1 w z => ⟨G1, ds, s1, p1, w, z.1, z.2.2⟩, hx⟩) fun us s1 ⟨vs, H1, I1, r, G1, ds, sl1, p1, w, l1, z⟩ => ⟨I1.kIn, ?_⟩) he hpl
  exact run_fnG (ws := []) (qs := []) (es := []) F hr hgd tk hb I1 p1.rep r .nil w .nil l1 rfl z (fun v H' G' dv sl' pe z' => hq v H' G' dv sl' (p1.thenE pe) z') (hx.step p1)
theorem de_callK (F : FnG X.prog X.w X.K X.mg X.base k f fd ps sp) (hr : Room k X.A) (hgd : X.A.guards = some []) (tk : L2N.Takes X W) (hb : Bd X.K fd ps n ks sel) (hg : Gl X x) (hm : X.mg x = some (.ref f)) (hk : PySem.W.keepIn X.K (.ref f) = true)
    (ha : DA X W (e :: es) ta) (hkw : DK X W kws tk') (hall : (backToKw pos (keywordEach kws X.env)).all (·.1.isSome) = true := by rfl) (hks : (backToKw pos (keywordEach kws X.env)).filterMap (·.1) = ks := by rfl) (hdb : (x == ("__debug__" : Str)) = false := by decide)
    (he : starEach (e :: es) X.env = (false, eval e X.env) :: starEach es X.env := by rfl) (hpl : ((backTo pos (starEach (e :: es) X.env)).any (·.1) || (backToKw pos (keywordEach kws X.env)).any (·.1.isNone)) = false := by rfl) :
    DE X W (.Call (.Name x p) (e :: es) kws pos) (dCall sp n ks.length sel ta tk') := by
  refine ⟨fun pins s σ H Q I ⟨G, so, sl, Q', E, rep, q, hq, hx⟩ => wpAny_Call_Name_kw (ld_glob I hg hm ?_ hdb)⟩
  refine PySem.W.callWith_KW (h₀ := X.base) I.ok.mod.kin hk hall (thn (ha.run pos pins s σ H (fun vs H1 => ∃ G1 ds s1, Post X.K G so σ H sl H1 G1 s1 ∧ VsOk X.K G1 so H1 vs ds ∧ tk' s1 (fun ys s2 => ds.length = n ∧ ys.length = ks.length ∧ sp (sel.map (pickD ds ys)) (fun v => Q' v s2) fun cls fs => E cls fs s2) E) I
    ⟨G, so, sl, _, E, rep, q, fun vs H1 G1 ds s1 p1 w z => ⟨G1, ds, s1, p1, w, z⟩, hx⟩) fun us s1 ⟨vs, H1, I1, r, G1, ds, sl1, p1, w, z⟩ => ?_) hpl he
  refine thn (hkw.run pos pins s1 σ H1 (fun qs H2 => ∃ G2 es s2, Post X.K G1 so σ H1 sl1 H2 G2 s2 ∧ VsOk X.K G2 so H2 qs es ∧ ds.length = n ∧ es.length = ks.length ∧ sp (sel.map (pickD ds es)) (fun v => Q' v s2) fun cls fs => E cls fs s2) I1
    ⟨G1, so, sl1, _, E, p1.rep, z, fun qs H2 G2 es s2 p2 w2 z => ⟨G2, es, s2, p2, w2, z⟩, hx.step p1⟩) fun ws s2 ⟨qs, H2, I2, r2, G2, es, sl2, p2, w2, l1, l2, z⟩ => ⟨I2.kIn, ?_⟩
  rw [hks]
  exact run_fnG F hr hgd tk hb I2 p2.rep r r2 (w.keep p2.ex p2.keep) w2 l1 l2 z (fun v H' G' dv sl' pe z' => hq v H' G' dv sl' ((p1.trans p2).thenE pe) z') (hx.step (p1.trans p2))
theorem de_callK0 (F : FnG X.prog X.w X.K X.mg X.base k f fd ps sp) (hr : Room k X.A) (hgd : X.A.guards = some []) (tk : L2N.Takes X W) (hb : Bd X.K fd ps 0 ks sel) (hg : Gl X x) (hm : X.mg x = some (.ref f)) (hk : PySem.W.keepIn X.K (.ref f) = true)
    (hkw : DK X W kws tk') (hall : (backToKw pos (keywordEach kws X.env)).all (·.1.isSome) = true := by rfl) (hks : (backToKw pos (keywordEach kws X.env)).filterMap (·.1) = ks := by rfl) (hdb : (x == ("__debug__" : Str)) = false := by decide)
    (hpl : ((backTo pos (starEach [] X.env)).any (·.1) || (backToKw pos (keywordEach kws X.env)).any (·.1.isNone)) = false := by rfl) :
    DE X W (.Call (.Name x p) [] kws pos) (dCall sp 0 ks.length sel dNil tk') := by
  refine ⟨fun pins s σ H Q I ⟨G, so, sl, Q', E, rep, q, hq, hx⟩ => wpAny_Call_Name_kw (ld_glob I hg hm ?_ hdb)⟩
  refine PySem.W.callWith_KW0 (h₀ := X.base) I.ok.mod.kin hk hall ?_ hpl
  refine thn (hkw.run pos pins s σ H (fun qs H2 => ∃ G2 es s2, Post X.K G so σ H sl H2 G2 s2 ∧ VsOk X.K G2 so H2 qs es ∧ es.length = ks.length ∧ sp (sel.map (pickD [] es)) (fun v => Q' v s2) fun cls fs => E cls fs s2) I
    ⟨G, so, sl, _, E, rep, q, fun qs H2 G2 es s2 p2 w2 z => ⟨G2, es, s2, p2, w2, z.2.1, z.2.2⟩, hx⟩) fun ws s2 ⟨qs, H2, I2, r2, G2, es, sl2, p2, w2, l2, z⟩ => ⟨I2.kIn, ?_⟩
  rw [hks]
  exact run_fnG (us := []) (vs := []) (ds := []) F hr hgd tk hb I2 p2.rep .nil r2 .nil w2 rfl l2 z (fun v H' G' dv sl' pe z' => hq v H' G' dv sl' (p2.thenE pe) z') (hx.step p2)
theorem de_call0 (F : FnG X.prog X.w X.K X.mg X.base k f fd ps sp) (hr : Room k X.A) (hgd : X.A.guards = some []) (tk : L2N.Takes X W) (hb : Bd X.K fd ps 0 [] sel) (hg : Gl X x) (hm : X.mg x = some (.ref f)) (hk : PySem.W.keepIn X.K (.ref f) = true)
    (hdb : (x == ("__debug__" : Str)) = false := by decide) : DE X W (.Call (.Name x p) [] [] pos) (dCall sp 0 0 sel dNil dNil) := by
  refine ⟨fun pins s σ H Q I ⟨G, so, sl, Q', E, rep, q, hq, hx⟩ => wpAny_Call_Name_kw (ld_glob I hg hm ?_ hdb)⟩
  exact PySem.W.callWith_K0 I.kIn hk (run_fnG (us := []) (vs := []) (ds := []) (ws := []) (qs := []) (es := []) F hr hgd tk hb I rep .nil .nil .nil .nil rfl rfl q.2.2 hq hx)
end
end DL

set_option Elab.async false
set_option linter.all false
set_option maxRecDepth 100000
set_option autoImplicit false
set_option maxHeartbeats 2000000
namespace DL
open PySem PySem.Spec PyProof.Rows L2

/-! ### built-ins called by their names -/
section
variable {X : Cx} {W : WX} {x : Str} {p pos : Pos} {e : Expr} {es : List Expr} {ta : TDA} {id T : String} {r : List V → Hp → VK → Prop} {rd : List DV → (DV → Prop) → Prop}
theorem de_callB (hc : CallR X (.builtin id) r) (hr : CallSem X.K r rd) (hg : Gl X x) (hm : X.mg x = none) (hv : bootBuiltins x = some (.builtin id)) (ha : DA X W (e :: es) ta) (hn : x ≠ "__name__" := by decide) (hdb : (x == ("__debug__" : Str)) = false := by decide)
    (he : starEach (e :: es) X.env = (false, eval e X.env) :: starEach es X.env := by rfl) (hpl : (backTo pos (starEach es X.env)).any (·.1) = false := by rfl) : DE X W (.Call (.Name x p) (e :: es) [] pos) (dCB rd ta) := pe_imp (pe_callB hc hg hm hv ha hn hdb he hpl) fun _ _ _ h => up_cb hr h
theorem de_callT (hc : CallR X (.type T) r) (hr : CallSem X.K r rd) (hg : Gl X x) (hm : X.mg x = none) (hv : bootBuiltins x = some (.type T)) (ha : DA X W (e :: es) ta) (hn : x ≠ "__name__" := by decide) (hdb : (x == ("__debug__" : Str)) = false := by decide)
    (he : starEach (e :: es) X.env = (false, eval e X.env) :: starEach es X.env := by rfl) (hpl : (backTo pos (starEach es X.env)).any (·.1) = false := by rfl) : DE X W (.Call (.Name x p) (e :: es) [] pos) (dCB rd ta) := pe_imp (pe_callTy hc hg hm hv ha hn hdb he hpl) fun _ _ _ h => up_cb hr h
/-- a module's name for a built-in function -/
theorem de_callF (hc : CallR X (.builtin id) r) (hr : CallSem X.K r rd) (hg : Gl X x) (hm : X.mg x = some (.builtin id)) (ha : DA X W (e :: es) ta) (hdb : (x == ("__debug__" : Str)) = false := by decide)
    (he : starEach (e :: es) X.env = (false, eval e X.env) :: starEach es X.env := by rfl) (hpl : (backTo pos (starEach es X.env)).any (·.1) = false := by rfl) : DE X W (.Call (.Name x p) (e :: es) [] pos) (dCB rd ta) := pe_imp (pe_callBfun hc hg hm ha hdb he hpl) fun _ _ _ h => up_cb hr h
/-- a built-in class as a value; a constant of the module's -/
theorem de_ty {T : String} (hg : Gl X x) (hm : X.mg x = none) (hv : bootBuiltins x = some (.type T)) (hn : x ≠ "__name__" := by decide) (hdb : (x == ("__debug__" : Str)) = false := by decide) : DE X W (.Name x pos) (dC (.raw (.ty T))) := de_c (pe_bltn (v := .ty T) hg hm hv rfl hn hdb) fun _ => .raw _
theorem de_glob {v : V} {u : Value} {d : D} (hg : Gl X x) (hm : X.mg x = some u) (r : RelV v u) (hd : ∀ G, DOk X.K G v d) (hdb : (x == ("__debug__" : Str)) = false := by decide) : DE X W (.Name x pos) (dC d) := de_c (pe_glob hg hm r hdb) hd
end

/-! ### len, int, str, abs, list, tuple, all, any -/
@[irreducible] def lenR : List DV → (DV → Prop) → Prop
  | [.d (.str z)], Q => z.length ≤ szl ∧ Q (.d (.int z.length))
  | [.d (.tup ds)], Q => Q (.d (.int ds.length))
  | [v], Q => match v.items with
    | some ds => Q (.d (.int ds.length))
    | none => False
  | _, _ => False
@[irreducible] def intC : List DV → (DV → Prop) → Prop
  | [.d (.int i)], Q => Q (.d (.int i))
  | _, _ => False
@[irreducible] def absR : List DV → (DV → Prop) → Prop
  | [.d (.int i)], Q => Q (.d (.int (if i < 0 then -i else i)))
  | _, _ => False
@[irreducible] def strR : List DV → (DV → Prop) → Prop
  | [.d (.int i)], Q => i.natAbs.log2 < 1920 ∧ Q (.d (.str (toString i)))
  | _, _ => False
@[irreducible] def listR : List DV → (DV → Prop) → Prop
  | [.d (.tup ds)], Q => Q (.own (.lst ds))
  | [v], Q => match v.items with
    | some ds => Q (.own (.lst ds))
    | none => False
  | _, _ => False
@[irreducible] def tupleR : List DV → (DV → Prop) → Prop
  | [.d (.tup ds)], Q => Q (.d (.tup ds))
  | [v], Q => match v.items with
    | some ds => Q (.d (.tup ds))
    | none => False
  | _, _ => False
def bools : List D → Option (List Bool)
  | [] => some []
  | .bl b :: r => (bools r).map (b :: ·)
  | _ => none
@[irreducible] def allR : List DV → (DV → Prop) → Prop
  | [v], Q => match v.items with
    | some ds => match bools ds with
      | some bs => Q (.d (.bl (bs.all id)))
      | none => False
    | none => False
  | _, _ => False
@[irreducible] def gcdR : List DV → (DV → Prop) → Prop
  | [.d (.int i), .d (.int j)], Q => Q (.d (.int (Int.gcd i j)))
  | _, _ => False
section
variable {K : PySem.W.Frag} {X : Cx}
def rLen1 (K : PySem.W.Frag) : List V → Hp → VK → Prop := fun xs H Q => ∃ x n, xs = [x] ∧ LenV K x H n ∧ Q (.int n) H
theorem sem_len : CallSem K (rLen1 K) lenR := by
  intro G so H xs dxs Q R h w q k
  unfold lenR at q
  split at q
  · obtain ⟨v, rfl, w1, _⟩ := w.v1
    cases w1
    exact ⟨_, _, rfl, ⟨by rw [← szl_eq]; exact q.1, rfl⟩, k _ H G _ (.dat h (.int _)) q.2⟩
  · obtain ⟨v, rfl, w1, _⟩ := w.v1
    obtain ⟨a, vs, rfl, g1, a1⟩ := VOk.tup h w1
    exact ⟨_, _, rfl, .inr ⟨vs, g1, rfl⟩, k _ H G _ (.dat h (by rw [a1.length]; exact .int _)) q⟩
  · obtain ⟨v, rfl, w1, _⟩ := w.v1
    split at q
    · rename_i e
      obtain ⟨a, vs, rfl, g1, a1⟩ := VOk.list h w1 e
      exact ⟨_, _, rfl, .inl ⟨vs, SqL.of g1, rfl⟩, k _ H G _ (.dat h (by rw [a1.length]; exact .int _)) q⟩
    · exact q.elim
  · exact q.elim
theorem sem_int : CallSem K (fun xs H Q => (∃ i, xs = [.int i] ∧ Q (.int i) H) ∨ ∃ k, xs = [.bl k] ∧ Q (.int (if k then 1 else 0)) H) intC := by
  intro G so H xs dxs Q R h w q k
  unfold intC at q
  split at q
  · obtain ⟨v, rfl, w1, _⟩ := w.v1
    cases w1
    exact .inl ⟨_, rfl, k _ H G _ (.dat h (.int _)) q⟩
  · exact q.elim
theorem sem_abs : CallSem K (fun xs H Q => ∃ i, xs = [.int i] ∧ Q (.int (if i < 0 then -i else i)) H) absR := by
  intro G so H xs dxs Q R h w q k
  unfold absR at q
  split at q
  · obtain ⟨v, rfl, w1, _⟩ := w.v1
    cases w1
    exact ⟨_, rfl, k _ H G _ (.dat h (.int _)) q⟩
  · exact q.elim
theorem sem_str : CallSem K (fun xs H Q => ∃ i, xs = [.int i] ∧ i.natAbs.log2 < 1920 ∧ Q (.str (toString i)) H) strR := by
  intro G so H xs dxs Q R h w q k
  unfold strR at q
  split at q
  · obtain ⟨v, rfl, w1, _⟩ := w.v1
    cases w1
    exact ⟨_, rfl, q.1, k _ H G _ (.dat h (.str _)) q.2⟩
  · exact q.elim
theorem sem_list : CallSem K (fun xs H Q => ∃ p ys, xs = [.ref p] ∧ (SqL K H p ys ∨ SqT K H p ys) ∧ ∀ l, H l = none → Q (.ref l) (upd H l (.lst ys))) listR := by
  intro G so H xs dxs Q R h w q k
  unfold listR at q
  split at q
  · obtain ⟨v, rfl, w1, _⟩ := w.v1
    obtain ⟨a, vs, rfl, g1, a1⟩ := VOk.tup h w1
    exact ⟨a, vs, rfl, .inr g1, fun l n => k _ _ G _ (.list h n a1) q⟩
  · obtain ⟨v, rfl, w1, _⟩ := w.v1
    split at q
    · rename_i e
      obtain ⟨a, vs, rfl, g1, a1⟩ := VOk.list h w1 e
      exact ⟨a, vs, rfl, .inl (SqL.of g1), fun l n => k _ _ G _ (.list h n a1) q⟩
    · exact q.elim
  · exact q.elim
theorem sem_tuple : CallSem K (fun xs H Q => ∃ p ys, xs = [.ref p] ∧ ((SqL K H p ys ∧ ∀ l, H l = none → Q (.ref l) (upd H l (.tup ys))) ∨ (SqT K H p ys ∧ Q (.ref p) H))) tupleR := by
  intro G so H xs dxs Q R h w q k
  unfold tupleR at q
  split at q
  · obtain ⟨v, rfl, w1, _⟩ := w.v1
    obtain ⟨a, vs, rfl, g1, a1⟩ := VOk.tup h w1
    exact ⟨a, vs, rfl, .inr ⟨g1, k _ _ G _ (.dat h w1) q⟩⟩
  · obtain ⟨v, rfl, w1, _⟩ := w.v1
    split at q
    · rename_i e
      obtain ⟨a, vs, rfl, g1, a1⟩ := VOk.list h w1 e
      exact ⟨a, vs, rfl, .inl ⟨SqL.of g1, fun l n => k _ _ _ _ (.tuple h n a1) q⟩⟩
    · exact q.elim
  · exact q.elim
theorem bools_ok {G : Hp} : ∀ {vs : List V} {ds : List D} {bs : List Bool}, DAll K G vs ds → bools ds = some bs → vs = bs.map V.bl
  | _, _, _, .nil, e => by cases e; rfl
  | _, _, _, .cons (d := .bl b) h t, e => by
    unfold bools at e
    rename_i ds0
    cases z : bools ds0 with
    | none => rw [z] at e; cases e
    | some ys => rw [z] at e; cases e; cases h; rw [bools_ok t z]; rfl
  | _, _, _, .cons (d := .non) h t, e => by cases e
  | _, _, _, .cons (d := .int _) h t, e => by cases e
  | _, _, _, .cons (d := .str _) h t, e => by cases e
  | _, _, _, .cons (d := .lst _) h t, e => by cases e
  | _, _, _, .cons (d := .tup _) h t, e => by cases e
  | _, _, _, .cons (d := .ins _ _) h t, e => by cases e
  | _, _, _, .cons (d := .raw _) h t, e => by cases e
theorem sem_all : CallSem K (rAll K) allR := by
  intro G so H xs dxs Q R h w q k
  unfold allR at q
  split at q
  · obtain ⟨v, rfl, w1, _⟩ := w.v1
    split at q
    · rename_i e
      obtain ⟨a, vs, rfl, g1, a1⟩ := VOk.list h w1 e
      split at q
      · rename_i bs eb
        exact ⟨a, bs, rfl, by rw [← bools_ok a1 eb]; exact SqL.of g1, k _ H G _ (.dat h (.bl _)) q⟩
      · exact q.elim
    · exact q.elim
  · exact q.elim
theorem sem_gcd : CallSem K rGcd gcdR := by
  intro G so H xs dxs Q R h w q k
  unfold gcdR at q
  split at q
  · obtain ⟨v, v', rfl, w1, w2, _⟩ := w.v2
    cases w1; cases w2
    exact ⟨_, _, rfl, k _ H G _ (.dat h (.int _)) q⟩
  · exact q.elim

/-! ### isinstance -/
/-- the name of a tree's built-in class -/
def tyD : D → Option String
  | .non => some "NoneType"
  | .bl _ => some "bool"
  | .int _ => some "int"
  | .str _ => some "str"
  | .lst _ => some "list"
  | .tup _ => some "tuple"
  | _ => none
@[irreducible] def isiR : List DV → (DV → Prop) → Prop
  | [v, .d (.raw (.ty T))], Q => match v.dat with
    | some d => match tyD d with
      | some t => match kitB t T with
        | some b => Q (.d (.bl b))
        | none => False
      | none => False
    | none => False
  | _, _ => False
theorem ty_ok {G H : Hp} {so : So} {v : V} {dv : DV} {d : D} {t : String} (h : HRep K G so H) (w : VOk K G so H v dv) (e : dv.dat = some d) (q : tyD d = some t) : TyX K H v (.type t) := by
  have own : ∀ {a : Addr} {o : OO}, OwnOk K G H a o → tyD (pubO o) = some t → TyX K H (.ref a) (.type t) := fun {a o} k q => by
    cases o with
    | lst ds => obtain ⟨vs, e1, _⟩ := k; cases q; exact .base (.lst e1)
    | ins x C fs => cases q
    | dk _ => cases q
    | dt _ => cases q
  cases dv with
  | src => cases e
  | own o => cases e; obtain ⟨a, rfl, _, _, k⟩ := w; exact own k q
  | bor o =>
    cases e; obtain ⟨a, rfl, _, k⟩ := w
    cases o with
    | lst ds => exact own (o := .lst ds) k q
    | ins x C fs => cases q
    | dk _ => cases q
    | dt _ => cases q
  | see o => cases e; obtain ⟨a, rfl, _, k⟩ := w; exact own k q
  | d x =>
    cases e
    cases w with
    | non => cases q; exact .base .non
    | bl b => cases q; exact .base (.bl b)
    | int i => cases q; exact .base (.int i)
    | str z => cases q; exact .base (.str z)
    | lst g _ => cases q; exact .base (.lst (h.ex _ _ g))
    | tup g _ =>
      cases q
      rcases g with (g | ⟨o, g⟩) | ⟨o, its, n, g, c, _⟩
      · exact .base (.tup (h.ex _ _ g))
      · exact .fTuple (h.ex _ _ g)
      · exact .kTuple g c
    | ins _ _ _ => cases q
    | dk _ => cases q
    | dt _ => cases q
    | any _ => cases q
    | raw _ => cases q
theorem sem_isi : CallSem K (rIsi K) isiR := by
  intro G so H xs dxs Q R h w q k
  unfold isiR at q
  split at q
  · obtain ⟨v, v', rfl, w1, w2, _⟩ := w.v2
    cases w2
    split at q
    · rename_i d e
      split at q
      · rename_i t et
        split at q
        · rename_i b eb
          exact ⟨_, _, _, _, b, rfl, .ty _, ty_ok h w1 e et, kit_ty eb, k _ H G _ (.dat h (.bl _)) q⟩
        · exact q.elim
      · exact q.elim
    · exact q.elim
  · exact q.elim

/-! ### in -/
def flatD : D → Bool
  | .non => true
  | .bl _ => true
  | .int _ => true
  | .str _ => true
  | _ => false
def eqF : D → D → Bool
  | .non, .non => true
  | .bl a, .bl b => a == b
  | .bl a, .int b => (if a then 1 else 0) == b
  | .int a, .bl b => a == (if b then 1 else 0)
  | .int a, .int b => a == b
  | .str a, .str b => a == b
  | _, _ => false
def inF (x : D) (ds : List D) : Bool := ds.any fun y => eqF y x
@[irreducible] def inSeqR (neg : Bool) : DV → DV → (DV → Prop) → Prop
  | .d x, .d (.tup ds), Q => flatD x = true ∧ ds.all flatD = true ∧ Q (.d (.bl (if neg then !inF x ds else inF x ds)))
  | .d x, y, Q => match y.items with
    | some ds => flatD x = true ∧ ds.all flatD = true ∧ Q (.d (.bl (if neg then !inF x ds else inF x ds)))
    | none => False
  | _, _, _ => False
@[irreducible] def inR (neg : Bool) : DV → DV → (DV → Prop) → Prop
  | .d (.str w), .d (.str z), Q => match w.cps.toList with
    | [c] => Q (.d (.bl (if neg then !decide (c ∈ z.cps.toList) else decide (c ∈ z.cps.toList))))
    | _ => False
  | x, y, Q => inSeqR neg x y Q
theorem flat_ok {G : Hp} {v : V} {d : D} (w : DOk K G v d) (f : flatD d = true) : flatV v = true := by
  cases w <;> first | rfl | (exact absurd f (by simp [flatD]))
theorem eqF_ok {G : Hp} {v u : V} {d e : D} (w : DOk K G v d) (w2 : DOk K G u e) (f : flatD d = true) (f2 : flatD e = true) : eqV v u = eqF d e := by
  cases w <;> cases w2 <;> first | rfl | (exfalso; revert f f2; simp [flatD]; done)
theorem flat_all {G : Hp} : ∀ {vs : List V} {ds : List D}, DAll K G vs ds → ds.all flatD = true → vs.all flatV = true
  | _, _, .nil, _ => rfl
  | _, _, .cons h t, f => by
    rw [List.all_cons, Bool.and_eq_true] at f
    rw [List.all_cons, flat_ok h f.1, flat_all t f.2]; rfl
theorem in_ok {G : Hp} {v : V} {x : D} (w : DOk K G v x) (f : flatD x = true) : ∀ {vs : List V} {ds : List D}, DAll K G vs ds → ds.all flatD = true → inV v vs = inF x ds
  | _, _, .nil, _ => rfl
  | _, _, .cons h t, g => by
    rw [List.all_cons, Bool.and_eq_true] at g
    have ih := in_ok w f t g.2
    unfold inV inF at ih ⊢
    rw [List.any_cons, List.any_cons, eqF_ok h w g.1 f, ih]
theorem sem_inSeq (neg : Bool) : OpSem K (rIn K neg) (inSeqR neg) := by
  intro G so H x y dx dy Q R h wx wy q k
  unfold inSeqR at q
  split at q
  · obtain ⟨a, vs, rfl, g1, a1⟩ := VOk.tup h wy
    exact ⟨a, vs, rfl, .inr g1, flat_ok wx q.1, flat_all a1 q.2.1, by rw [in_ok wx q.1 a1 q.2.1]; exact k _ H G _ (.dat h (.bl _)) q.2.2⟩
  · split at q
    · rename_i e
      obtain ⟨a, vs, rfl, g1, a1⟩ := VOk.list h wy e
      exact ⟨a, vs, rfl, .inl (SqL.of g1), flat_ok wx q.1, flat_all a1 q.2.1, by rw [in_ok wx q.1 a1 q.2.1]; exact k _ H G _ (.dat h (.bl _)) q.2.2⟩
    · exact q.elim
  · exact q.elim
def rInAll (K : PySem.W.Frag) : R2 := fun x y H Q => (∃ (c : Nat) (z : Str), x = .str ⟨#[c]⟩ ∧ y = .str z ∧ Q (.bl (decide (c ∈ z.cps.toList))) H) ∨ rIn K false x y H Q
def rNotInAll (K : PySem.W.Frag) : R2 := fun x y H Q => (∃ (c : Nat) (z : Str), x = .str ⟨#[c]⟩ ∧ y = .str z ∧ Q (.bl (!decide (c ∈ z.cps.toList))) H) ∨ rIn K true x y H Q
theorem op_inAll : OpR X (compareOp .In) (rInAll X.K) := OpR.or op_in_sign op_in_seq
theorem op_notInAll : OpR X (compareOp .NotIn) (rNotInAll X.K) := OpR.or op_notIn_sign op_notIn_seq
theorem one_sign {w : Str} {c : Nat} (e : w.cps.toList = [c]) : w = ⟨#[c]⟩ := by
  obtain ⟨a⟩ := w
  have : a = #[c] := by
    apply Array.toList_inj.mp
    exact e
  rw [this]
theorem sem_in : OpSem K (rInAll K) (inR false) := by
  intro G so H x y dx dy Q R h wx wy q k
  unfold inR at q
  split at q
  · split at q
    · rename_i c e
      cases wx; cases wy
      exact .inl ⟨c, _, by rw [one_sign e], rfl, k _ H G _ (.dat h (.bl _)) q⟩
    · exact q.elim
  · exact .inr (sem_inSeq false G so H x y dx dy Q R h wx wy q k)
theorem sem_notIn : OpSem K (rNotInAll K) (inR true) := by
  intro G so H x y dx dy Q R h wx wy q k
  unfold inR at q
  split at q
  · split at q
    · rename_i c e
      cases wx; cases wy
      exact .inl ⟨c, _, by rw [one_sign e], rfl, k _ H G _ (.dat h (.bl _)) q⟩
    · exact q.elim
  · exact .inr (sem_inSeq true G so H x y dx dy Q R h wx wy q k)

/-! ### a[i] -/
@[irreducible] def ixR : DV → DV → (DV → Prop) → Prop
  | .d (.tup ds), .d (.int i), Q => match atI ds i with
    | some d => Q (.d d)
    | none => False
  | .d (.str z), .d (.int i), Q => z.length ≤ szl ∧ match atI z.cps.toList i with
    | some c => Q (.d (.str ⟨#[c]⟩))
    | none => False
  | v, .d (.int i), Q => match v.items with
    | some ds => match atI ds i with
      | some d => Q (.d d)
      | none => False
    | none => False
  | _, _, _ => False
theorem at_all {G : Hp} {vs : List V} {ds : List D} {i : Int} {d : D} (a : DAll K G vs ds) (e : atI ds i = some d) : ∃ v, atI vs i = some v ∧ DOk K G v d := by
  unfold atI at e ⊢
  rw [a.length]
  cases z : ixN ds.length i with
  | none => rw [z] at e; cases e
  | some j => rw [z] at e; exact a.get e
theorem sem_ix : OpSem K (rIx K) ixR := by
  intro G so H x y dx dy Q R h wx wy q k
  unfold ixR at q
  split at q
  · split at q
    · rename_i e
      obtain ⟨a, vs, rfl, g1, a1⟩ := VOk.tup h wx
      cases wy
      obtain ⟨v, e1, e2⟩ := at_all a1 e
      exact .inr (.inl ⟨a, vs, _, v, rfl, rfl, g1, e1, k _ H G _ (.dat h e2) q⟩)
    · exact q.elim
  · cases wx; cases wy
    obtain ⟨q1, q⟩ := q
    split at q
    · rename_i e
      exact .inr (.inr ⟨_, _, _, rfl, rfl, by rw [← szl_eq]; exact q1, e, k _ H G _ (.dat h (.str _)) q⟩)
    · exact q.elim
  · split at q
    · rename_i e
      split at q
      · rename_i e0
        obtain ⟨a, vs, rfl, g1, a1⟩ := VOk.list h wx e
        cases wy
        obtain ⟨v, e1, e2⟩ := at_all a1 e0
        exact .inl ⟨a, vs, _, v, rfl, rfl, SqL.of g1, e1, k _ H G _ (.dat h e2) q⟩
      · exact q.elim
    · exact q.elim
  · exact q.elim
end
end DL

set_option Elab.async false
set_option linter.all false
set_option maxRecDepth 100000
set_option autoImplicit false
set_option maxHeartbeats 2000000
namespace DL
open PySem PySem.Spec PyProof.Rows L2

/-! ### a[lo:hi] -/
abbrev TDO := DSt → (Option Int → DSt → Prop) → XP → Prop
def dNoPart : TDO := fun sl Q _ => Q none sl
def dPart (te : TD) : TDO := fun sl Q E => te sl (fun x s1 => match x with
  | .d (.int i) => Q (some i) s1
  | _ => False) E
def upO (K : PySem.W.Frag) (W : WX) (t : TDO) : TO := fun σ H R => ∃ G so sl Q E, Rep K G so σ H sl ∧ t sl Q E ∧ (∀ o H' G' sl', Post K G so σ H sl H' G' sl' → Q o sl' → R o H') ∧ XOk K W G so σ H sl E
def DO' (X : Cx) (W : WX) (e : Option Expr) (t : TDO) : Prop := PO X e (upO X.K W t)
def cut {α : Type} (xs : List α) (lo hi : Option Int) : List α := (xs.drop (HT.sIx xs.length 0 lo)).take (HT.sIx xs.length xs.length hi - HT.sIx xs.length 0 lo)
@[irreducible] def slR (v : DV) (lo hi : Option Int) (Q : DV → Prop) : Prop := match v with
  | .d (.tup ds) => Q (.d (.tup (cut ds lo hi)))
  | .d (.str z) => z.length ≤ szl ∧ Q (.d (.str (cutS z lo hi)))
  | v => match v.items with
    | some ds => Q (.own (.lst (cut ds lo hi)))
    | none => False
def dSl (te : TD) (tl th : TDO) : TD := fun sl Q E => te sl (fun x s1 => tl s1 (fun lo s2 => th s2 (fun hi s3 => slR x lo hi fun z => Q z s3) E) E) E
section
variable {X : Cx} {W : WX} {e : Expr} {te : TD} {tl th : TDO} {pos p2 : Pos} {lo hi : Option Expr} {K : PySem.W.Frag}
theorem po_imp {o : Option Expr} {t t' : TO} (h : PO X o t) (f : ∀ σ H R, t' σ H R → t σ H R) : PO X o t' := ⟨fun pins s σ H Q I q => h.run pins s σ H Q I (f _ _ _ q)⟩
theorem do_none : DO' X W none dNoPart := po_imp po_none fun σ H R ⟨G, so, sl, Q, E, rep, q, hq, hx⟩ => hq none H G sl (.refl rep) q
theorem do_some (h : DE X W e te) : DO' X W (some e) (dPart te) := po_imp (po_some h) fun σ H R ⟨G, so, sl, Q, E, rep, q, hq, hx⟩ => ⟨G, so, sl, _, E, rep, q, fun v H1 G1 dv s1 p q1 => by
    split at q1
    · have w := p.val
      cases w
      exact ⟨_, rfl, hq _ H1 G1 s1 p.toPost q1⟩
    · exact q1.elim, hx⟩
theorem cut_all {G : Hp} {vs : List V} {ds : List D} {lo hi : Option Int} (a : DAll K G vs ds) : DAll K G (cutV vs lo hi) (cut ds lo hi) := by
  unfold cutV cut
  rw [a.length]
  exact (a.drop _).take _
def rSlAll (K : PySem.W.Frag) : V → Option Int → Option Int → Hp → VK → Prop := fun x lo hi H Q => rSlA K x lo hi H Q ∨ (rSlS x lo hi H Q ∨ rSlL K x lo hi H Q)
theorem sl_all : SlR X (rSlAll X.K) := SlR.or sl_tupA (SlR.or sl_str sl_list)
theorem cut_whole {α : Type} {xs : List α} {lo hi : Option Int} (h : HT.sIx xs.length 0 lo = 0 ∧ HT.sIx xs.length xs.length hi = xs.length) : cut xs lo hi = xs := by
  unfold cut
  rw [h.1, h.2]
  simp
theorem sem_sl {G : Hp} {so : So} {H : Hp} {x : V} {dx : DV} {lo hi : Option Int} {Q : DV → Prop} {R : VK} (h : HRep K G so H) (w : VOk K G so H x dx) (q : slR dx lo hi Q) (k : ∀ v H' G' dv, PostV K G so H v H' G' dv → Q dv → R v H') : rSlAll K x lo hi H R := by
  unfold slR at q
  split at q
  · obtain ⟨a, vs, rfl, g1, a1⟩ := VOk.tup h w
    refine .inl ⟨a, vs, rfl, g1, fun z => ?_, fun _ p n => k _ _ _ _ (.tuple h n (cut_all a1)) q⟩
    rw [a1.length] at z
    rw [cut_whole z] at q
    exact k _ H G _ (.dat h w) q
  · cases w
    exact .inr (.inl ⟨_, rfl, by rw [← szl_eq]; exact q.1, k _ H G _ (.dat h (.str _)) q.2⟩)
  · split at q
    · rename_i e
      obtain ⟨a, vs, rfl, g1, a1⟩ := VOk.list h w e
      exact .inr (.inr ⟨a, vs, rfl, SqL.of g1, fun p n => k _ _ _ _ (.list h n (cut_all a1)) q⟩)
    · exact q.elim
theorem de_sl (he : DE X W e te) (hl : DO' X W lo tl) (hh : DO' X W hi th) : DE X W (.Subscript e (.Slice lo hi none p2) pos) (dSl te tl th) := pe_imp (pe_slice sl_all he hl hh) fun σ H R ⟨G, so, sl, Q, E, rep, q, hq, hx⟩ => by
  refine ⟨G, so, sl, _, E, rep, q, fun x H1 G1 dx s1 p1 q1 => ?_, hx⟩
  refine ⟨G1, so, s1, _, E, p1.rep, q1, fun o1 H2 G2 s2 p2 q2 => ?_, hx.step p1.toPost⟩
  refine ⟨G2, so, s2, _, E, p2.rep, q2, fun o2 H3 G3 s3 p3 q3 => ?_, hx.step (p1.toPost.trans p2)⟩
  have p23 := p2.trans p3
  exact sem_sl p3.rep.h (p1.over p23) q3 fun v H' G' dv pv hz => hq v H' G' dv s3 ((p1.toPost.trans p23).thenV pv) hz
end

/-! ### sep.join(texts) -/
def strsD : List D → Option (List Str)
  | [] => some []
  | .str s :: r => (strsD r).map (s :: ·)
  | _ => none
theorem strs_ok {K : PySem.W.Frag} {G : Hp} : ∀ {vs : List V} {ds : List D} {ss : List Str}, DAll K G vs ds → strsD ds = some ss → vs = ss.map V.str
  | _, _, _, .nil, e => by cases e; rfl
  | _, _, _, .cons (d := .str b) h t, e => by
    unfold strsD at e
    rename_i ds0
    cases z : strsD ds0 with
    | none => rw [z] at e; cases e
    | some ys => rw [z] at e; cases e; cases h; rw [strs_ok t z]; rfl
  | _, _, _, .cons (d := .non) h t, e => by cases e
  | _, _, _, .cons (d := .int _) h t, e => by cases e
  | _, _, _, .cons (d := .bl _) h t, e => by cases e
  | _, _, _, .cons (d := .lst _) h t, e => by cases e
  | _, _, _, .cons (d := .tup _) h t, e => by cases e
  | _, _, _, .cons (d := .ins _ _) h t, e => by cases e
  | _, _, _, .cons (d := .raw _) h t, e => by cases e
def seqD : DV → Option (List D)
  | .d (.tup ds) => some ds
  | v => v.items
@[irreducible] def joinR : DV → DV → (DV → Prop) → Prop
  | .d (.str a), y, Q => match seqD y with
    | some ds => match strsD ds with
      | some ss => (ss.map (·.length)).sum + ss.length * a.length ≤ 16777216 ∧ Q (.d (.str (Txt.join a ss)))
      | none => False
    | none => False
  | _, _, _ => False
section
variable {X : Cx} {W : WX} {o e : Expr} {to te : TD} {apos pos : Pos}
theorem de_join (ho : DE X W o to) (he : DE X W e te) (hs : starEach [e] X.env = [(false, eval e X.env)] := by rfl) (hbase : attributeBase o "join" X.env (eval o X.env) = eval o X.env := by rfl) (hline : (apos.endLine == pos.line) = true := by rfl) :
    DE X W (.Call (.Attribute o "join" apos) [e] [] pos) (fun sl Q E => to sl (fun x s1 => (∃ a, x = .d (.str a)) ∧ te s1 (fun y s2 => joinR x y fun z => Q z s2) E) E) := pe_imp (pe_join ho he hs hbase hline) fun σ H R ⟨G, so, sl, Q, E, rep, q, hq, hx⟩ => by
  refine ⟨G, so, sl, _, E, rep, q, fun x H1 G1 dx s1 p1 ⟨⟨a, ea⟩, h1⟩ => ⟨?_, ?_⟩, hx⟩
  · have w := p1.val
    rw [ea] at w
    cases w; exact ⟨a, rfl⟩
  · refine ⟨G1, so, s1, _, E, p1.rep, h1, fun y H2 G2 dy s2 p2 h2 => ?_, hx.step p1.toPost⟩
    have w1 := p1.over p2.toPost
    have w2 := p2.val
    have fin := fun (z : Str) (qz : Q (.d (.str z)) s2) => hq _ H2 G2 _ s2 ((p1.toPost.trans p2.toPost).thenV (.dat p2.rep.h (.str z))) qz
    rw [ea] at w1 h2
    cases w1
    unfold joinR at h2
    change (match seqD dy with | some ds => (match strsD ds with | some ss => (ss.map (·.length)).sum + ss.length * a.length ≤ 16777216 ∧ Q (.d (.str (Txt.join a ss))) s2 | none => False) | none => False) at h2
    split at h2
    · rename_i ds ed
      split at h2
      · rename_i ss es
        unfold seqD at ed
        split at ed
        · cases ed
          obtain ⟨b, vs, rfl, g1, a1⟩ := VOk.tup p2.rep.h w2
          exact ⟨_, b, ss, rfl, rfl, .inr (by rw [← strs_ok a1 es]; exact g1), h2.1, fin _ h2.2⟩
        · obtain ⟨b, vs, rfl, g1, a1⟩ := VOk.list p2.rep.h w2 ed
          exact ⟨_, b, ss, rfl, rfl, .inl (by rw [← strs_ok a1 es]; exact SqL.of g1), h2.1, fin _ h2.2⟩
      · exact h2.elim
    · exact h2.elim
end

/-! ### repr of a plain tree -/
def rReprD (K : PySem.W.Frag) : List V → Hp → VK → Prop := fun xs H Q => ∃ (a : Addr) (d : PyData), xs = [.ref a] ∧ Dp K H (.ref a) d ∧ SeqAt.shaped d = true ∧ d.showable = true ∧ d.shown.length ≤ sizeLine ∧ Q (.str d.shown) H
theorem call_reprD {X : Cx} (hg : X.A.guards = some []) (hu : X.A.units + 65 < cLine) : CallR X (.builtin "repr") (rReprD X.K) := by
  intro pins s σ H xs us Q I r h
  obtain ⟨a, d, rfl, hd, hs, hw, hz, q⟩ := h
  obtain ⟨u, rfl, ru⟩ := vals1 r
  cases ru
  obtain ⟨as, rd⟩ := Dp.reads I d _ _ hd (show RelV (.ref a) (.ref a) from rfl)
  have dd := SeqAt.depth_of_shaped hs
  exact repr_of_reads' rd hw (PyData.noDict_hsm (PyData.hasDict_of_canLay _ (SeqAt.canLay_of_shaped hs))) hg (by omega) (fun _ _ e => e) (fun h' u tk hk => ⟨.str d.shown, H, I.kept hk, ⟨_, rfl⟩, q⟩) hz
@[irreducible] def reprR : List DV → (DV → Prop) → Prop
  | [v], Q => match v.dat with
    | some (.lst ds) => match (D.lst ds).py with
      | some p => SeqAt.shaped p = true ∧ p.showable = true ∧ p.shown.length ≤ szl ∧ Q (.d (.str p.shown))
      | none => False
    | some (.tup ds) => match (D.tup ds).py with
      | some p => SeqAt.shaped p = true ∧ p.showable = true ∧ p.shown.length ≤ szl ∧ Q (.d (.str p.shown))
      | none => False
    | _ => False
  | _, _ => False
theorem dp_ref {K : PySem.W.Frag} {G H : Hp} {so : So} {v : V} {dv : DV} {d : D} (w : VOk K G so H v dv) (e : dv.dat = some d) (h : (∃ ds, d = .lst ds) ∨ ∃ ds, d = .tup ds) : ∃ a, v = .ref a := by
  cases dv with
  | src => cases e
  | own o => obtain ⟨a, q, _⟩ := w; exact ⟨a, q⟩
  | bor o => obtain ⟨a, q, _⟩ := w; exact ⟨a, q⟩
  | see o => obtain ⟨a, q, _⟩ := w; exact ⟨a, q⟩
  | d x =>
    cases e
    rcases h with ⟨ds, rfl⟩ | ⟨ds, rfl⟩
    · cases w; exact ⟨_, rfl⟩
    · cases w; exact ⟨_, rfl⟩
theorem sem_repr {K : PySem.W.Frag} : CallSem K (rReprD K) reprR := by
  intro G so H xs dxs Q R h w q k
  unfold reprR at q
  split at q
  · obtain ⟨v, rfl, w1, _⟩ := w.v1
    split at q
    · rename_i ds e
      split at q
      · rename_i p ep
        obtain ⟨a, rfl⟩ := dp_ref w1 e (.inl ⟨ds, rfl⟩)
        exact ⟨a, p, rfl, w1.dp h e ep, q.1, q.2.1, by rw [← szl_eq]; exact q.2.2.1, k _ H G _ (.dat h (.str _)) q.2.2.2⟩
      · exact q.elim
    · rename_i ds e
      split at q
      · rename_i p ep
        obtain ⟨a, rfl⟩ := dp_ref w1 e (.inr ⟨ds, rfl⟩)
        exact ⟨a, p, rfl, w1.dp h e ep, q.1, q.2.1, by rw [← szl_eq]; exact q.2.2.1, k _ H G _ (.dat h (.str _)) q.2.2.2⟩
      · exact q.elim
    · exact q.elim
  · exact q.elim
end DL

set_option Elab.async false
set_option linter.all false
set_option maxRecDepth 100000
set_option autoImplicit false
set_option maxHeartbeats 2000000
namespace DL
open PySem PySem.Spec PyProof.Rows L2

/-! ### defs by readings of the layer below -/
structure FnR (P : Program) (w : World) (K : PySem.W.Frag) (mg : Str → Option Value) (base : Heap) (k : Nat) (f : Addr) (fd : FuncData) (ps : List Str) (sp : Sp) : Prop where
  len : ∀ vs H Q E, sp vs H Q E → vs.length = ps.length
  run : ∀ (A : Around) (outer : List Env) (s : Shared) (H : Hp) (args : Args) (us : List Value) (vs : List V) (Q : VK) (E : XK), Room k A → A.guards = some [] → Env0 P w K mg base A outer s H → BindsTo s fd args (ps.zip us) → Vals vs us → sp vs H Q E →
    codeAny (model P w) A (.call (.ref f) args) (CR (L2N.CX P w) outer P w H s Q E) s
theorem fnR_of {P : Program} {w : World} {K : PySem.W.Frag} {mg : Str → Option Value} {base : Heap} {x qual : Str} {params : Arguments} {body : List Stmt} {scope : Scope} {dvs : List V} {kws : List (Str × V)} {f : Addr} {fd : FuncData} {N ps : List Str} {k : Nat} {sp : Sp}
    (F : FunD K x qual params body scope dvs kws f fd) (S : FnScope N ps scope) (len : ∀ vs H Q E, sp vs H Q E → vs.length = ps.length)
    (hd : ∀ (cdv : Value) (A : Around) (outer : List Env) (s : Shared) (H : Hp) (vs : List V) (Q : VK) (E : XK), Room k (A.deeper (envOfC qual scope s.heap.objs.size f cdv)) → (cxOf (L2N.CX P w) P w K mg base N qual scope f cdv A outer s H E).A.guards = some [] → sp vs H Q E →
      ∃ t, PSs (cxOf (L2N.CX P w) P w K mg base N qual scope f cdv A outer s H E) body t ∧ t { nx := fun _ H' => Q .non H', rt := Q } (L2.start N vs) H) : FnR P w K mg base (k + 1) f fd ps sp := by
  obtain ⟨oc, od, dV, kV, doc, pm, an, cdv, ct, osl, rfl, lk, hcd, _, _⟩ := F.ex
  refine ⟨len, fun A outer s H args us vs Q E hroom hg e0 hb r hsp => ?_⟩
  have KX : K.In s.heap := e0.mod.kin.keeps fun b o e => (e0.bs b o e).1
  have lim : s.heap.NoLimit := e0.mod.nolimit.keeps fun b o e => (e0.bs b o e).1
  have hkind : ((ps.zip us).all fun y => scope.names.lookup y.1 == some .local || scope.names.lookup y.1 == some .cell) = true := by
    rw [List.all_eq_true]
    rintro ⟨n, u⟩ hy
    rcases S.par n (List.of_mem_zip hy).1 with z | z
    · show (scope.names.lookup n == some .local || _) = true
      rw [z]; rfl
    · show (scope.names.lookup n == some .local || scope.names.lookup n == some .cell) = true
      rw [z]; rfl
  refine Att.call_fn KX lim lk hcd hroom.depth hb hkind (fun s1 x => ?_) S.co S.gen S.kind
  have I := inv_start (CX := L2N.CX P w) (E := E) S hroom.hd e0 (len _ _ _ _ hsp) r x
  obtain ⟨t, pt, qt⟩ := hd cdv A outer s H vs Q E (hroom.deeper _) hg hsp
  refine wpAny_mono (pt.run [] s1 (L2.start N vs) H _ I qt) (fun fl s' hs => ?_) fun e s' hs => hs
  cases fl with
  | ret u =>
    obtain ⟨v, σ', H', J, rv, z⟩ := hs
    exact ⟨v, H', J.os, J.bare, J.base, J.hok, rv, z⟩
  | next =>
    obtain ⟨σ', H', J, z⟩ := hs
    exact ⟨.non, H', J.os, J.bare, J.base, J.hok, rfl, z⟩
  | brk => obtain ⟨_, _, _, z⟩ := hs; exact False.elim z
  | cont => obtain ⟨_, _, _, z⟩ := hs; exact False.elim z
theorem FnR.g {P : Program} {w : World} {K : PySem.W.Frag} {mg : Str → Option Value} {base : Heap} {k : Nat} {f : Addr} {fd : FuncData} {ps : List Str} {sp : SpD} (F : FnR P w K mg base k f fd ps (upSp K sp)) (len : ∀ args Q E, sp args Q E → args.length = ps.length) : FnG P w K mg base k f fd ps sp := ⟨len, F.run⟩
theorem FnG.r {P : Program} {w : World} {K : PySem.W.Frag} {mg : Str → Option Value} {base : Heap} {k : Nat} {f : Addr} {fd : FuncData} {ps : List Str} {sp : SpD} (F : FnG P w K mg base k f fd ps sp) : FnR P w K mg base k f fd ps (upSp K sp) :=
  ⟨fun vs H Q E ⟨G, so, as, QD, ED, _, w, q, _⟩ => w.length.trans (F.len _ _ _ q), F.run⟩
/-- f(e, ..) by such a promise, nothing raised -/
theorem pe_callR {X : Cx} {k : Nat} {f : Addr} {fd : FuncData} {ps : List Str} {sp : Sp} {x : Str} {p pos : Pos} {e : Expr} {es : List Expr} {t : TA} (F : FnR X.prog X.w X.K X.mg X.base k f fd ps sp) (hr : Room k X.A) (hgd : X.A.guards = some []) (hg : Gl X x) (hm : X.mg x = some (.ref f)) (hk : PySem.W.keepIn X.K (.ref f) = true) (hb : Binds X.K fd ps [])
    (ha : PA X (e :: es) t) (hdb : (x == ("__debug__" : Str)) = false := by decide) (he : starEach (e :: es) X.env = (false, eval e X.env) :: starEach es X.env := by rfl) (hpl : (backTo pos (starEach es X.env)).any (·.1) = false := by rfl) :
    PE X (.Call (.Name x p) (e :: es) [] pos) (fun σ H Q => t σ H fun vs H1 => sp vs H1 Q E0) := by
  refine ⟨fun pins s σ H Q I h => wpAny_Call_Name_kw (ld_glob I hg hm ?_ hdb)⟩
  refine PySem.W.callWith_K (h₀ := X.base) I.ok.mod.kin hk (thn (ha.run pos pins s σ H _ I h) fun us s1 ⟨vs, H1, I1, r, q⟩ => ⟨I1.kIn, ?_⟩) he hpl
  have hl : (us ++ []).length = ps.length := by rw [List.append_nil, ← r.length]; exact F.len _ _ _ _ q
  have hb2 := hb s1 us I1.kIn hl
  rw [List.append_nil] at hb2
  refine wpAny_call (codeAny_mono (F.run X.A X.stack s1 H1 ⟨us, []⟩ us vs Q E0 hr hgd I1.env0 hb2 r q) fun r s' hq => ?_)
  cases r with
  | error e =>
    obtain ⟨_, _, _, _, _, _, _, _, _, _, _, _, z⟩ := hq
    exact False.elim z
  | ok fl =>
    cases fl with
    | ret u => exact I1.after hq
    | next => exact False.elim hq
    | brk => exact False.elim hq
    | cont => exact False.elim hq

/-! ### the law's own end -/
section
variable {P : Program} {w : World} {K : PySem.W.Frag} {mg mb : Str → Option Value}
/-- the script and the empty tables, the tracked heap at the law's start -/
def heap0 (K : PySem.W.Frag) (tb : List Addr) (a : Addr) (o : Obj) (xs : List V) : Hp := fun b => if b ∈ tb then some (.tbl #[]) else if b = a ∧ K.lookup a = none then some (.frz o (.lst xs)) else none
theorem heap0_cases {tb : List Addr} {a b : Addr} {o : Obj} {xs : List V} {u : HO} (h : heap0 K tb a o xs b = some u) : (b ∈ tb ∧ u = .tbl #[]) ∨ (b ∉ tb ∧ b = a ∧ K.lookup a = none ∧ u = .frz o (.lst xs)) := by
  unfold heap0 at h
  by_cases q : b ∈ tb
  · rw [if_pos q] at h; cases h; exact .inl ⟨q, rfl⟩
  · rw [if_neg q] at h
    by_cases z : b = a ∧ K.lookup a = none
    · rw [if_pos z] at h; cases h; exact .inr ⟨q, z.1, z.2, rfl⟩
    · rw [if_neg z] at h; cases h
/-- the law's promise, from the heap behind the top: it hands back True; cs: code objects with their tables -/
theorem law_callG {k : Nat} {fa a : Addr} {cs : List (Addr × Addr)} {fd : FuncData} {x : Str} {sp : Sp} {s1 : Shared} {vs : List Value} {ns : List Int}
    (KX : K.In s1.heap) (hns : s1.heap.Ns mainGlobals mg) (hb : s1.heap.Ns builtinsNs mb) (hbb : ∀ x : Str, x ≠ "__name__" → mb x = bootBuiltins x) (hlim : s1.heap.NoLimit) (hg : s1.gens = #[])
    (tE : ∀ q ∈ cs, s1.heap.get? q.2 = some { cls := .none, data := .fields #[] }) (tN : ∀ q ∈ cs, K.lookup q.2 = none) (tC : ∀ q ∈ cs, PySem.W.CodeHd s1.heap q.1 q.2)
    (bmn : ∃ (bm : Addr) (ob : Obj), mg "__builtins__" = some (.ref bm) ∧ bm ≠ builtinsNs ∧ s1.heap.get? bm = some ob ∧ ob.cls = .type "module" ∧ ob.dict = some builtinsNs ∧ ob.data = .plain)
    (ha : s1.heap.get? a = some { cls := .type "list", data := .seq vs.toArray }) (hi : IntsAre vs ns) (hl : ns.length ≤ sizeLine) (hr : Room k callerA)
    (F : ∀ base : Heap, K.In base → base.Ns mainGlobals mg → (∀ q ∈ cs, LamX.TabB base mg q.1 q.2) → FnR P w K mg base k fa fd [x] sp) (hbind : ∀ (s : Shared) (u : Value), BindsTo s fd ⟨[u], []⟩ [(x, u)])
    (hsp : ∀ H : Hp, (∀ q ∈ cs, H q.2 = some (.tbl #[])) → SqL K H a (ns.map V.int) → sp [.ref a] H (fun v _ => v = .bl true) fun _ _ _ => False) :
    codeAny (model P w) callerA (.call (.ref fa) ⟨[.ref a], []⟩) (fun r s' => r = .ok (.ret (.bool true)) ∧ OldK s1.heap s'.heap ∧ s'.os = s1.os ∧ AllBare s'.gens) s1 := by
  have rv := vals_ints hi
  let O : Obj := { cls := .type "list", data := .seq vs.toArray }
  let H := heap0 K (cs.map Prod.snd) a O (ns.map V.int)
  have tb : ∀ b ∈ cs.map Prod.snd, s1.heap.get? b = some { cls := .none, data := .fields #[] } := fun b hm => by
    obtain ⟨q, hq, rfl⟩ := List.mem_map.mp hm
    exact tE q hq
  have na : a ∉ cs.map Prod.snd := fun z => by
    have y := ha.symm.trans (tb a z)
    cases y
  have inT : ∀ b ∈ cs.map Prod.snd, H b = some (.tbl #[]) := fun b hm => if_pos hm
  have hok : HOk P w H s1.heap := fun b u e => by
    rcases heap0_cases e with ⟨hm, rfl⟩ | ⟨_, rfl, _, rfl⟩
    · exact tb b hm
    · exact ⟨ha, by rw [List.length_map]; exact hl, vs, _, rv, ha⟩
  have hS : SqL K H a (ns.map V.int) := by
    cases hk : K.lookup a with
    | none => exact .inl (.inr ⟨O, (if_neg na).trans (if_pos ⟨rfl, hk⟩)⟩)
    | some o =>
      have e := KX a o hk
      rw [ha] at e; cases e
      refine .inr ⟨_, vs.toArray, _, hk, rfl, rfl, rfl, ?_, by simpa using rv⟩
      rw [List.size_toArray, hi.length]; exact hl
  -- what is neither a list nor empty fields is not tracked
  have free : ∀ {b : Addr} {o : Obj}, s1.heap.get? b = some o → (∀ xs n, o.data ≠ .seq xs n) → o.data ≠ .fields #[] → H b = none := fun {b o} e n1 n2 => by
    cases q : H b with
    | none => rfl
    | some u =>
      rcases heap0_cases q with ⟨hm, _⟩ | ⟨_, rfl, _, _⟩
      · have y := (tb b hm).symm.trans e
        cases y; exact absurd rfl n2
      · have y := ha.symm.trans e
        cases y; exact absurd rfl (n1 _ _)
  have lay : ∀ {b : Addr} {o : Obj}, s1.heap.get? b = some o → H b = none → (hidT s1.heap H).get? b = some o := fun e n => hidT_get e n
  have plain : ∀ {b : Addr} {m : Str → Option Value}, s1.heap.Ns b m → (hidT s1.heap H).Ns b m := fun {b m} ⟨o, es, ep, e, d, r⟩ =>
    ⟨o, es, ep, lay e (free e (fun xs n z => by rw [d] at z; cases z) fun z => by rw [d] at z; cases z), d, r⟩
  have hKb : K.In (hidT s1.heap H) := fun b o e => lay (KX b o e) (by
    cases q : H b with
    | none => rfl
    | some u =>
      rcases heap0_cases q with ⟨hm, _⟩ | ⟨_, rfl, z, _⟩
      · obtain ⟨y, hy, rfl⟩ := List.mem_map.mp hm
        rw [tN y hy] at e; cases e
      · rw [z] at e; cases e)
  have TB : ∀ q ∈ cs, LamX.TabB (hidT s1.heap H) mg q.1 q.2 := fun q hq => by
    refine ⟨?_, ?_, fun z => ?_⟩
    · obtain ⟨o, us, f1, f2, f3, f4, f5, f6, f7, e1, r1, r2, r3, rest⟩ := tC q hq
      refine ⟨o, us, f1, f2, f3, f4, f5, f6, f7, lay e1 (free e1 (fun xs n z => ?_) fun z => ?_), r1, r2, r3, rest⟩
      · rw [r2] at z; cases z
      · rw [r2] at z; cases z; simp at r3
    · obtain ⟨bm, ob, b1, b2, b3, b4, b5, b6⟩ := bmn
      refine ⟨bm, ob, b1, b2, fun z => ?_, fun z => ?_, lay b3 (free b3 (fun xs n z => ?_) fun z => ?_), b4, b5, b6⟩
      · obtain ⟨o, es, ep, e, hd, _⟩ := hns
        subst z
        have y := e.symm.trans b3
        cases y
        rw [hd] at b6; cases b6
      · subst z
        have y := (tE q hq).symm.trans b3
        cases y
        cases b6
      · rw [b6] at z; cases z
      · rw [b6] at z; cases z
    · obtain ⟨o, es, ep, e, hd, _⟩ := hns
      rw [z] at e
      have y := (tE q hq).symm.trans e
      cases y
      cases hd
  have e0 : Env0 P w K mg (hidT s1.heap H) callerA [] s1 H := by
    refine ⟨rfl, ⟨hKb, plain hns, ⟨mb, plain hb, hbb⟩, ?_⟩, fun b o e => of_hidT e, Nat.le_of_eq (hidT_size _ _), trivial, fun b z => absurd (show b ∈ ([] : List Addr) from z) (by simp), hok, .of_eq hg⟩
    obtain ⟨mc, h1, h2⟩ := hlim
    exact ⟨mc, plain h1, h2⟩
  refine codeAny_mono ((F _ hKb (plain hns) TB).run callerA [] s1 H ⟨[.ref a], []⟩ [.ref a] [.ref a] _ _ hr rfl e0 (hbind s1 (.ref a)) (.cons rfl .nil) (hsp H (fun q hq => inT _ (List.mem_map.mpr ⟨q, hq, rfl⟩)) hS)) fun r s' h => ?_
  cases r with
  | error e =>
    obtain ⟨_, _, _, _, _, _, _, _, _, _, _, _, z⟩ := h
    exact z.elim
  | ok fl =>
    cases fl with
    | next => exact False.elim h
    | brk => exact False.elim h
    | cont => exact False.elim h
    | ret u =>
      obtain ⟨v, H', os, bare, un, hok', r', q⟩ := h
      obtain rfl : v = .bl true := q
      obtain rfl : u = Value.bool true := r'
      have stay : ∀ b o, b ∉ cs.map Prod.snd → s1.heap.get? b = some o → s'.heap.get? b = some o := fun b o nb e => by
        cases q : H b with
        | none => exact un.keep b o e q (fun y => absurd (show b ∈ ([] : List Addr) from y) (by simp)) (by simp)
        | some u =>
          rcases heap0_cases q with ⟨hm, _⟩ | ⟨_, _, _, rfl⟩
          · exact absurd hm nb
          · obtain ⟨e1, _⟩ := hok b _ q
            obtain ⟨e2, _⟩ := hok' b _ (un.frzs b O _ q)
            rw [e] at e1; cases e1
            exact e2
      have grown : ∀ q ∈ cs, ∃ more : Array Value, s'.heap.get? q.2 = some { cls := .none, data := .fields more } := fun q hq => by
        obtain ⟨more, z⟩ := un.tbls q.2 #[] (inT _ (List.mem_map.mpr ⟨q, hq, rfl⟩))
        exact ⟨_, hok' q.2 _ z⟩
      refine ⟨rfl, ⟨fun b o e => ?_, fun b o e => ?_⟩, os, bare⟩
      · by_cases hm : b ∈ cs.map Prod.snd
        · obtain ⟨q, hq, rfl⟩ := List.mem_map.mp hm
          obtain ⟨more, hmo⟩ := grown q hq
          have y := (tE q hq).symm.trans e
          cases y
          exact .inr (.inl ⟨((tC q hq).tab (tE q hq)).isCodeTable, rfl, #[], more, rfl, by rw [Array.empty_append]; exact hmo⟩)
        · exact .inl (stay b o hm e)
      · by_cases hm : b ∈ cs.map Prod.snd
        · obtain ⟨q, hq, rfl⟩ := List.mem_map.mp hm
          obtain ⟨more, hmo⟩ := grown q hq
          exact ⟨_, hmo⟩
        · exact ⟨o, stay b o hm e⟩
end
end DL

set_option Elab.async false
set_option linter.all false
set_option maxRecDepth 100000
set_option autoImplicit false
set_option maxHeartbeats 2000000
namespace DL
open PySem PySem.Spec PyProof.Rows L2

/-! ### the source of draws -/
def spSource (K : PySem.W.Frag) : Sp := fun vs H Q _ => ∃ (a : Addr) (ns : List Int), vs = [.ref a] ∧ SqL K H a (ns.map V.int) ∧ ns.length ≤ 63 ∧
  ∀ (H' : Hp) (p c : Addr) (ms : List Int) (sd : Int), Ex H H' → c ≠ p → H' p = some (.lst [.ref c, .int 0, .int 0, .int sd, .int 0]) → H' c = some (.lst (ms.map V.int)) → ms.length ≤ 63 → 0 ≤ sd → sd < 4294967296 → Q (.ref p) H'
def spDraw : SpD := fun args Q _ => ∃ m : Int, args = [.src, .d (.int m)] ∧ 0 < m ∧ m < 2 ^ 64 ∧ ∀ n : Int, 0 ≤ n → n < m → Q (.d (.int n))
/-- seq[a draw below its length] -/
def spOf : SpD := fun args Q _ => ∃ x : DV, args = [.src, x] ∧ (∀ o, x ≠ .see o) ∧ match x with
  | .d (.str z) => 0 < z.length ∧ z.length ≤ szl ∧ ∀ c ∈ z.cps.toList, Q (.d (.str ⟨#[c]⟩))
  | .d (.tup ds) => 0 < ds.length ∧ ds.length ≤ szl ∧ ∀ d ∈ ds, Q (.d d)
  | x => match x.items with
    | some ds => 0 < ds.length ∧ ds.length ≤ szl ∧ ∀ d ∈ ds, Q (.d d)
    | none => False
/-- a tree that repr shows -/
structure Shows (d : D) (p : PyData) : Prop where
  py : d.py = some p
  seq : (∃ ds, d = .lst ds) ∨ ∃ ds, d = .tup ds
  sh : SeqAt.shaped p = true
  sw : p.showable = true
  ln : p.shown.length ≤ szl
/-- two trees that are shown alike -/
def spSame : SpD := fun args Q _ => ∃ (d e : D) (p q : PyData), args = [.d d, .d e] ∧ Shows d p ∧ Shows e q ∧ Q (.d (.bl (decide (p.shown = q.shown))))
theorem same_true {Q : DV → Prop} {E : XE'} {d : D} {p : PyData} (h : Shows d p) (q : Q (.d (.bl true))) : spSame [.d d, .d d] Q E := ⟨d, d, p, p, rfl, h, h, by rw [decide_eq_true rfl]; exact q⟩
theorem same_eq {Q : DV → Prop} {E : XE'} {d e : D} {p : PyData} (h : Shows d p) (he : d = e) (q : Q (.d (.bl true))) : spSame [.d d, .d e] Q E := by subst he; exact same_true h q
theorem room65 {k : Nat} {A : Around} (hr : Room k A) : A.units + 65 < cLine := by have := hr.un; omega
theorem repr_ok {d : D} {p : PyData} {Q : DV → Prop} (s : Shows d p) (q : Q (.d (.str p.shown))) : reprR [.d d] Q := by
  unfold reprR
  rcases s.seq with ⟨ds, rfl⟩ | ⟨ds, rfl⟩
  · show (match (D.lst ds).py with | some p => SeqAt.shaped p = true ∧ p.showable = true ∧ p.shown.length ≤ szl ∧ Q (.d (.str p.shown)) | none => False)
    rw [s.py]
    exact ⟨s.sh, s.sw, s.ln, q⟩
  · show (match (D.tup ds).py with | some p => SeqAt.shaped p = true ∧ p.showable = true ∧ p.shown.length ≤ szl ∧ Q (.d (.str p.shown)) | none => False)
    rw [s.py]
    exact ⟨s.sh, s.sw, s.ln, q⟩

/-- the tables of code objects are empty at the start -/
def LamUq (K : PySem.W.Frag) : Prop := ∀ q ∈ lamFns K, ∀ q' ∈ lamFns K, q.2.1 = q'.2.1 → q.2.2 = q'.2.2
def spLaw (K : PySem.W.Frag) : Sp := fun vs H Q _ => ∃ (a : Addr) (ns : List Int), vs = [.ref a] ∧ SqL K H a (ns.map V.int) ∧ ns.length ≤ 63 ∧ (∀ q ∈ lamFns K, H q.2.1 = some (.tbl #[])) ∧ LamUq K ∧ ∀ H', Q (.bl true) H'
abbrev lawEnds : EndsD := { nx := fun _ => False, rt := fun v => v = .d (.bl true), bk := fun _ => False, ct := fun _ => False, xc := fun _ _ _ => False }
/-- the law behind its first statement -/
theorem law_up {K : PySem.W.Frag} {W : WX} {t : TDS} {D : Ends} {σ : L2.St} {H : Hp} {p c : Addr} {ms : List Int} {sd : Int} (n i : Nat) (hl : σ.length = n) (hi : σ[i]? = some (some (.ref p))) (hD : ∀ H', D.rt (.bl true) H')
    (cp : c ≠ p) (hp : H p = some (.lst [.ref c, .int 0, .int 0, .int sd, .int 0])) (hc : H c = some (.lst (ms.map V.int))) (hm : ms.length ≤ 63) (h0 : 0 ≤ sd) (h1 : sd < 4294967296) (ht : ∀ q ∈ lamFns K, H q.2.1 = some (.tbl #[])) (hu : LamUq K)
    (h : t lawEnds ((List.replicate n none).set i (some .src))) : upS K W t D σ H := by
  refine ⟨fun b => if b = c then H c else none, (p, .src) :: (lamFns K).map fun q => (q.2.1, .tab q.2.2), _, lawEnds, ?_, h, ⟨fun _ _ _ _ _ z => z.elim, fun _ _ _ _ _ z => z.elim, fun _ _ _ _ _ z => z.elim, fun v H' G' dv pr z => ?_, fun _ _ _ _ _ _ _ _ _ z => z.elim⟩⟩
  · have sl : ∀ (j : Nat) (dv : DV), ((List.replicate n none).set i (some DV.src))[j]? = some (some dv) → j = i ∧ dv = .src := fun j dv e => by
      rcases get_set e with ⟨z, e2⟩ | ⟨ne, e2⟩
      · exact ⟨z, Option.some.inj e2⟩
      · rw [List.getElem?_replicate] at e2
        split at e2 <;> cases e2
    refine ⟨⟨fun b o e => ?_, fun b k e => ?_, fun q hq => List.mem_cons_of_mem _ (List.mem_map.mpr ⟨q, hq, rfl⟩), fun b k k' e e' => ?_⟩, by simp [hl], fun j dv e => ?_, fun j k o o' b e1 _ _ _ => ?_, fun j o b e1 _ _ => ?_, fun j o e => ?_⟩
    · by_cases q : b = c
      · subst q; rw [if_pos rfl] at e; exact e
      · rw [if_neg q] at e; cases e
    · rcases List.mem_cons.mp e with e | e
      · cases e
        exact ⟨if_neg (Ne.symm cp), c, ms, 0, 0, sd, 0, hp, SqL.of (by rw [if_pos rfl]; exact hc), hm, by omega, by omega, h0, h1⟩
      · obtain ⟨q, hq, e⟩ := List.mem_map.mp e
        cases e
        have hne : q.2.1 ≠ c := fun z => by
          have y := ht q hq
          rw [z, hc] at y; cases y
        exact ⟨if_neg hne, #[], ht q hq, True.intro, fun pos cv hcv => (by have z : codeAmong pos [] = some cv := hcv; simp [codeAmong] at z)⟩
    · have np : ∀ q ∈ lamFns K, q.2.1 ≠ p := fun q hq z => by
        have y := ht q hq
        rw [z, hp] at y; cases y
      rcases List.mem_cons.mp e with e | e <;> rcases List.mem_cons.mp e' with e' | e'
      · cases e; cases e'; rfl
      · obtain ⟨q, hq, e'⟩ := List.mem_map.mp e'
        cases e; cases e'
        exact absurd rfl (np q hq)
      · obtain ⟨q, hq, e⟩ := List.mem_map.mp e
        cases e; cases e'
        exact absurd rfl (np q hq)
      · obtain ⟨q, hq, e⟩ := List.mem_map.mp e
        obtain ⟨q', hq', e'⟩ := List.mem_map.mp e'
        cases e
        injection e' with e1 e2
        rw [← e2, hu q hq q' hq' e1.symm]
    · obtain ⟨rfl, rfl⟩ := sl j dv e
      exact ⟨_, hi, p, List.mem_cons_self .., rfl⟩
    · exact (nomatch (sl j _ e1).2)
    · exact (nomatch (sl j _ e1).2)
    · exact (nomatch (sl j _ e).2)
  · have w := pr.val
    rw [z] at w
    cases w
    exact hD H'
/-! ### loops by what holds between two turns -/
theorem forL_inv {g : TDG} {tb : TDS} {E : EndsD} (I : DSt → Prop) : ∀ (ds : List D) (sl : DSt), I sl → (∀ (N : DSt → Prop) (d : D) (s : DSt), (∀ s', I s' → N s') → d ∈ ds → I s → g d s fun s1 => tb { nx := N, ct := N, bk := E.nx, rt := E.rt, xc := E.xc } s1) → (∀ s, I s → E.nx s) → dForL g tb E ds sl
  | [], sl, h, _, fin => by rw [forL_nil]; exact fin sl h
  | d :: r, sl, h, step, fin => by
    rw [forL_cons]
    exact step _ d sl (fun s' i => forL_inv I r s' i (fun N e s k m => step N e s k (List.mem_cons_of_mem _ m)) fin) (List.mem_cons_self ..) h
/-- .. by the part that is left -/
theorem forL_ind {g : TDG} {tb : TDS} {E : EndsD} (I : List D → DSt → Prop) (step : ∀ (N : DSt → Prop) (d : D) (r : List D) (s : DSt), (∀ s', I r s' → N s') → I (d :: r) s → g d s fun s1 => tb { nx := N, ct := N, bk := E.nx, rt := E.rt, xc := E.xc } s1) (fin : ∀ s, I [] s → E.nx s) : ∀ (ds : List D) (sl : DSt), I ds sl → dForL g tb E ds sl
  | [], sl, h => by rw [forL_nil]; exact fin sl h
  | d :: r, sl, h => by
    rw [forL_cons]
    exact step _ d r sl (fun s' i => forL_ind I step fin r s' i) h
/-- a comprehension by what holds of its list -/
theorem lcL_ind {g : TDG} {tt : TDT} {te : TD} {vs : List Nat} {Q : DV → DSt → Prop} (I : List D → List D → DSt → Prop)
    (step : ∀ (N : List D → DSt → Prop) (d : D) (r acc : List D) (s : DSt), (∀ acc' s', I r acc' s' → N acc' s') → I (d :: r) acc s → g d s fun s1 => tt s1 (fun b s2 => Br b (te s2 (fun x s3 => match pubV x with
      | .d y => acc.length < szl ∧ N (acc ++ [y]) (wipeD s3 vs)
      | _ => False) fun _ _ _ => False) (N acc (wipeD s2 vs))) fun _ _ _ => False)
    (fin : ∀ acc s, I [] acc s → Q (.own (.lst acc)) s) : ∀ (ds acc : List D) (sl : DSt), I ds acc sl → dLcL g tt te vs Q ds acc sl
  | [], acc, sl, h => by rw [lcL_nil]; exact fin acc sl h
  | d :: r, acc, sl, h => by
    rw [lcL_cons]
    exact step _ d r acc sl (fun acc' s' i => lcL_ind I step fin r acc' s' i) h
end DL
namespace DL
open PySem PySem.Spec PyProof.Rows L2
/-- a constant of the module -/
def GlobD (K : PySem.W.Frag) (mg : Str → Option Value) (x : Str) (d : D) : Prop := ∃ v u, mg x = some u ∧ RelV v u ∧ ∀ G, DOk K G v d
theorem de_globD {X : Cx} {W : WX} {x : Str} {d : D} {pos : Pos} (hg : Gl X x) (h : GlobD X.K X.mg x d) (hdb : (x == ("__debug__" : Str)) = false := by decide) : DE X W (.Name x pos) (dC d) := by
  obtain ⟨v, u, h1, h2, h3⟩ := h
  exact de_c (pe_glob hg h1 h2 hdb) h3
/-- bindings -/
theorem vals_1 {v : V} {us : List Value} (r : Vals [v] us) : ∃ u, us = [u] ∧ RelV v u := vals1 r
theorem bd_of {K : PySem.W.Frag} {x qual : Str} {params : Arguments} {body : List Stmt} {scope : Scope} {kws : List (Str × V)} {f : Addr} {fd : FuncData} {ps ks : List Str} {n : Nat} {sel : List Sel} (F : FunD K x qual params body scope [] kws f fd) (g : List Value → List Value → List Value)
    (h : ∀ (kV doc pm : Value) (an : Option Addr) (cdv ct : Value) (us ws : List Value), us.length = n → ws.length = ks.length → bindArgs (PySem.W.fnOf x qual params body scope .none kV doc pm an cdv ct) ⟨us, ks.zip ws⟩ = pure (ps.zip (g us ws)))
    (hv : ∀ (vs qs : List V) (us ws : List Value), us.length = n → ws.length = ks.length → Vals vs us → Vals qs ws → Vals (sel.map (pickV vs qs)) (g us ws)) (hs : ∀ s ∈ sel, ∀ (v : V) (d : D), s = .dfl v d → ∀ G, DOk K G v d) : Bd K fd ps n ks sel := by
  obtain ⟨oc, od, dV, kV, doc, pm, an, cdv, ct, osl, rfl, lk, hcd, hD, hK⟩ := F.ex
  rcases hD with ⟨_, rfl⟩ | ⟨e, _⟩
  · exact ⟨fun s us ws vs qs _ l1 l2 r1 r2 => ⟨g us ws, .of_eq (h kV doc pm an cdv ct us ws l1 l2), hv vs qs us ws l1 l2 r1 r2⟩, hs⟩
  · exact absurd rfl e
/-- .. with positional defaults -/
theorem bd_dfl {K : PySem.W.Frag} {x qual : Str} {params : Arguments} {body : List Stmt} {scope : Scope} {dvs : List V} {kws : List (Str × V)} {f : Addr} {fd : FuncData} {ps ks : List Str} {n : Nat} {sel : List Sel} (F : FunD K x qual params body scope dvs kws f fd) (hd : dvs ≠ []) (g : List Value → List Value → List Value → List Value)
    (h : ∀ (T : Addr) (kV doc pm : Value) (an : Option Addr) (cdv ct : Value) (us ws its : List Value), us.length = n → ws.length = ks.length → its.length = dvs.length → ∃ k, bindArgs (PySem.W.fnOf x qual params body scope (.ref T) kV doc pm an cdv ct) ⟨us, ks.zip ws⟩ = seqItems? (.ref T) >>= k ∧ k (some its.toArray) = pure (ps.zip (g us ws its)))
    (hv : ∀ (vs qs : List V) (us ws its : List Value), us.length = n → ws.length = ks.length → Vals vs us → Vals qs ws → Vals dvs its → Vals (sel.map (pickV vs qs)) (g us ws its)) (hs : ∀ s ∈ sel, ∀ (v : V) (d : D), s = .dfl v d → ∀ G, DOk K G v d) : Bd K fd ps n ks sel := by
  obtain ⟨oc, od, dV, kV, doc, pm, an, cdv, ct, osl, rfl, lk, hcd, hD, hK⟩ := F.ex
  rcases hD with ⟨e, _⟩ | ⟨_, T, o, its, m, rfl, lT, oT, rT⟩
  · exact absurd e hd
  · refine ⟨fun s us ws vs qs X l1 l2 r1 r2 => ⟨g us ws its, BindsTo.of_looks fun M => ?_, hv vs qs us ws its l1 l2 r1 r2 rT⟩, hs⟩
    obtain ⟨k, e1, e2⟩ := h T kV doc pm an cdv ct us ws its l1 l2 rT.length.symm
    rw [e1]
    exact looks_items X lT oT (.of_pure e2)
end DL
namespace DL
open PySem PySem.Spec PyProof.Rows L2
theorem sh_str (s : Str) (h : PyData.strOk s = true) : SeqAt.shaped (.str s) = true := by simp [SeqAt.shaped, PyData.canLay0, PyData.depth, h]
theorem sh_int (s : Int) : SeqAt.shaped (.int s) = true := by simp [SeqAt.shaped, PyData.canLay0, PyData.depth]
theorem sh_bool (s : Bool) : SeqAt.shaped (.bool s) = true := by simp [SeqAt.shaped, PyData.canLay0, PyData.depth]
theorem sh_none : SeqAt.shaped .none = true := by simp [SeqAt.shaped, PyData.canLay0, PyData.depth]
theorem isi_ok {x : DV} {d : D} {t T : String} {b : Bool} {Q : DV → Prop} (hx : x.dat = some d) (ht : tyD d = some t) (hk : kitB t T = some b) (q : Q (.d (.bl b))) : isiR [x, .d (.raw (.ty T))] Q := by
  unfold isiR
  show (match x.dat with | some d => (match tyD d with | some t => (match kitB t T with | some b => Q (.d (.bl b)) | none => False) | none => False) | none => False)
  rw [hx]
  show (match tyD d with | some t => (match kitB t T with | some b => Q (.d (.bl b)) | none => False) | none => False)
  rw [ht]
  show (match kitB t T with | some b => Q (.d (.bl b)) | none => False)
  rw [hk]
  exact q
theorem kit_str_str : kitB "str" "str" = some true := by decide +kernel
theorem kit_non_str : kitB "NoneType" "str" = some false := by decide +kernel
theorem kit_bool_str : kitB "bool" "str" = some false := by decide +kernel
theorem kit_int_str : kitB "int" "str" = some false := by decide +kernel
theorem kit_list_str : kitB "list" "str" = some false := by decide +kernel
theorem kit_tuple_str : kitB "tuple" "str" = some false := by decide +kernel
end DL

set_option Elab.async false
set_option linter.all false
set_option maxRecDepth 100000
set_option autoImplicit false
set_option maxHeartbeats 2000000
/-! the leaves of readings, one step each -/
namespace DL
open PySem PySem.Spec PyProof.Rows L2
section
variable {Q : DV → Prop} {i j : Int} {a b z : Str} {ds es : List D} {d e : D} {v w : DV}
theorem l_addI (q : Q (.d (.int (i + j)))) : addR (.d (.int i)) (.d (.int j)) Q := by unfold addR; exact q
theorem l_addS (h : a.length + b.length ≤ szl) (q : Q (.d (.str (a ++ b)))) : addR (.d (.str a)) (.d (.str b)) Q := by unfold addR; exact ⟨h, q⟩
theorem l_addT (h : ds.length + es.length ≤ szl) (q : Q (.d (.tup (ds ++ es)))) : addR (.d (.tup ds)) (.d (.tup es)) Q := by unfold addR; exact ⟨h, q⟩
theorem l_addL (hv : v.items = some ds) (hw : w.items = some es) (h : ds.length + es.length ≤ szl) (q : Q (.own (.lst (ds ++ es)))) : addR v w Q := by
  unfold addR
  split
  · cases hv
  · cases hv
  · cases hv
  · rw [hv, hw]; exact ⟨h, q⟩
theorem l_int0 {f : Int → Int → D} (q : Q (.d (f i j))) : intR0 f (.d (.int i)) (.d (.int j)) Q := by unfold intR0; exact q
theorem l_int1 {C : Int → Int → Prop} {f : Int → Int → D} (h : C i j) (q : Q (.d (f i j))) : intR C f (.d (.int i)) (.d (.int j)) Q := by unfold intR; exact ⟨h, q⟩
theorem l_neg (q : Q (.d (.int (-i)))) : negR (.d (.int i)) Q := by unfold negR; exact q
theorem l_eqI {n : Bool} (q : Q (.d (.bl (if n then !decide (i = j) else decide (i = j))))) : eqR n (.d (.int i)) (.d (.int j)) Q := by unfold eqR; exact q
theorem l_eqS {n : Bool} (q : Q (.d (.bl (if n then !decide (a = b) else decide (a = b))))) : eqR n (.d (.str a)) (.d (.str b)) Q := by unfold eqR; exact q
theorem l_eqB {n x y : Bool} (q : Q (.d (.bl (if n then !decide (x = y) else decide (x = y))))) : eqR n (.d (.bl x)) (.d (.bl y)) Q := by unfold eqR; exact q
theorem l_eqD {n : Bool} {p p' : PyData} (hv : v.dat = some d) (hw : w.dat = some e) (h1 : d.py = some p) (h2 : e.py = some p') (s1 : SeqAt.shaped p = true) (s2 : SeqAt.shaped p' = true) (hn : (∃ x, p = .list x) ∨ (∃ x, p = .tuple x) ∨ p = .none) (q : Q (.d (.bl (if n then !PyData.eqv p p' else PyData.eqv p p')))) : eqR n v w Q := by
  unfold eqR
  split
  · cases hv; cases h1; rcases hn with ⟨x, z⟩ | ⟨x, z⟩ | z <;> cases z
  · cases hv; cases h1; rcases hn with ⟨x, z⟩ | ⟨x, z⟩ | z <;> cases z
  · cases hv; cases h1; rcases hn with ⟨x, z⟩ | ⟨x, z⟩ | z <;> cases z
  · unfold eqDeep
    rw [hv, hw]
    dsimp only
    rw [h1, h2]
    exact ⟨s1, s2, q⟩
theorem l_truB {P : Bool → Prop} {x : Bool} (q : P x) : truR (.d (.bl x)) P := by unfold truR; exact q
theorem l_truI {P : Bool → Prop} (q : P (i != 0)) : truR (.d (.int i)) P := by unfold truR; exact q
theorem l_truN {P : Bool → Prop} (q : P false) : truR (.d .non) P := by unfold truR; exact q
theorem l_truT {P : Bool → Prop} (q : P (!ds.isEmpty)) : truR (.d (.tup ds)) P := by unfold truR; exact q
theorem l_truL {P : Bool → Prop} (hv : v.items = some ds) (q : P (!ds.isEmpty)) : truR v P := by
  unfold truR
  split
  · cases hv
  · cases hv
  · cases hv
  · cases hv
  · cases hv
  · rw [hv]; exact q
theorem l_tup {xs : List DV} (h : dats xs = some ds) (hl : Nat.ble ds.length szl = true) (q : Q (.d (.tup ds))) : tupR xs Q := by
  unfold tupR; rw [h]; exact ⟨Nat.le_of_ble_eq_true hl, q⟩
theorem l_lst {xs : List DV} (h : dats xs = some ds) (hl : Nat.ble ds.length szl = true) (q : Q (.own (.lst ds))) : lstR xs Q := by
  unfold lstR; rw [h]; exact ⟨Nat.le_of_ble_eq_true hl, q⟩
theorem l_iterT {P : List D → Prop} (q : P ds) : iterR (.d (.tup ds)) P := by unfold iterR; exact q
theorem l_iterS {P : List D → Prop} (q : P (signs z)) : iterR (.d (.str z)) P := by unfold iterR; exact q
theorem l_iterL {P : List D → Prop} (q : P ds) : iterR (.d (.lst ds)) P := by unfold iterR; exact q
theorem l_iterB {P : List D → Prop} (q : P ds) : iterR (.bor (.lst ds)) P := by unfold iterR; exact q
theorem l_rng1 {P : List D → Prop} (h1 : -(2 ^ 62) ≤ j) (h2 : j < 2 ^ 62) (q : P (intsFrom 0 j.toNat)) : rngR1 [.d (.int j)] P := by unfold rngR1; exact ⟨h1, h2, q⟩
theorem l_rng2 {P : List D → Prop} (h : -(2 ^ 62) ≤ i ∧ i < 2 ^ 62 ∧ -(2 ^ 62) ≤ j ∧ j < 2 ^ 62) (q : P (intsFrom i (j - i).toNat)) : rngR2 [.d (.int i), .d (.int j)] P := by unfold rngR2; exact ⟨h, q⟩
theorem l_enum {P : List D → Prop} (q : P (enumFrom 0 ds)) : enumR [.d (.lst ds)] P := by unfold enumR; exact q
theorem l_zipT {P : List D → Prop} (q : P (zipD ds es)) : zipR [.d (.tup ds), .d (.tup es)] P := by unfold zipR; exact q
theorem l_zipL {P : List D → Prop} (q : P (zipD ds es)) : zipR [.d (.lst ds), .d (.lst es)] P := by unfold zipR; exact q
theorem l_lenS (h : z.length ≤ szl) (q : Q (.d (.int z.length))) : lenR [.d (.str z)] Q := by unfold lenR; exact ⟨h, q⟩
theorem l_lenT (q : Q (.d (.int ds.length))) : lenR [.d (.tup ds)] Q := by unfold lenR; exact q
theorem l_lenL (hv : v.items = some ds) (q : Q (.d (.int ds.length))) : lenR [v] Q := by
  unfold lenR
  split
  · rename_i h; cases h; cases hv
  · rename_i h; cases h; cases hv
  · rename_i h; cases h; rw [hv]; exact q
  · rename_i h; exact absurd rfl (h v)
theorem l_int (q : Q (.d (.int i))) : intC [.d (.int i)] Q := by unfold intC; exact q
theorem l_abs (q : Q (.d (.int (if i < 0 then -i else i)))) : absR [.d (.int i)] Q := by unfold absR; exact q
theorem l_str (h : i.natAbs.log2 < 1920) (q : Q (.d (.str (toString i)))) : strR [.d (.int i)] Q := by unfold strR; exact ⟨h, q⟩
theorem l_listT (q : Q (.own (.lst ds))) : listR [.d (.tup ds)] Q := by unfold listR; exact q
theorem l_listL (hv : v.items = some ds) (q : Q (.own (.lst ds))) : listR [v] Q := by
  unfold listR
  split
  · rename_i h; cases h; cases hv
  · rename_i h; cases h; rw [hv]; exact q
  · rename_i h; exact absurd rfl (h v)
theorem l_tupleT (q : Q (.d (.tup ds))) : tupleR [.d (.tup ds)] Q := by unfold tupleR; exact q
theorem l_tupleL (hv : v.items = some ds) (q : Q (.d (.tup ds))) : tupleR [v] Q := by
  unfold tupleR
  split
  · rename_i h; cases h; cases hv
  · rename_i h; cases h; rw [hv]; exact q
  · rename_i h; exact absurd rfl (h v)
theorem l_all {bs : List Bool} (hv : v.items = some ds) (hb : bools ds = some bs) (q : Q (.d (.bl (bs.all id)))) : allR [v] Q := by
  unfold allR
  dsimp only
  rw [hv]
  dsimp only
  rw [hb]
  exact q
theorem l_gcd (q : Q (.d (.int (Int.gcd i j)))) : gcdR [.d (.int i), .d (.int j)] Q := by unfold gcdR; exact q
theorem l_inC {n : Bool} {c : Nat} (h : a.cps.toList = [c]) (q : Q (.d (.bl (if n then !decide (c ∈ z.cps.toList) else decide (c ∈ z.cps.toList))))) : inR n (.d (.str a)) (.d (.str z)) Q := by
  unfold inR
  dsimp only
  rw [h]
  exact q
theorem l_inT {n : Bool} (h1 : flatD d = true) (h2 : ds.all flatD = true) (q : Q (.d (.bl (if n then !inF d ds else inF d ds)))) : inR n (.d d) (.d (.tup ds)) Q := by
  unfold inR
  split
  · rename_i h; cases h
  · unfold inSeqR; exact ⟨h1, h2, q⟩
theorem items_cases (h : v.items = some ds) : v = .d (.lst ds) ∨ v = .own (.lst ds) ∨ v = .bor (.lst ds) ∨ v = .see (.lst ds) := by
  unfold DV.items at h
  split at h <;> first | (cases h; done) | (injection h with h; subst h; simp)
theorem l_inL {n : Bool} (hv : v.items = some ds) (h1 : flatD d = true) (h2 : ds.all flatD = true) (q : Q (.d (.bl (if n then !inF d ds else inF d ds)))) : inR n (.d d) v Q := by
  rcases items_cases hv with e | e | e | e <;> subst e <;> (unfold inR; unfold inSeqR; cases d <;> exact ⟨h1, h2, q⟩)
theorem l_ixT (h : atI ds i = some d) (q : Q (.d d)) : ixR (.d (.tup ds)) (.d (.int i)) Q := by
  unfold ixR
  dsimp only
  rw [h]; exact q
theorem l_ixS {c : Nat} (hz : z.length ≤ szl) (h : atI z.cps.toList i = some c) (q : Q (.d (.str ⟨#[c]⟩))) : ixR (.d (.str z)) (.d (.int i)) Q := by
  unfold ixR
  refine ⟨hz, ?_⟩
  rw [h]; exact q
theorem l_ixL (hv : v.items = some ds) (h : atI ds i = some d) (q : Q (.d d)) : ixR v (.d (.int i)) Q := by
  rcases items_cases hv with e | e | e | e <;> subst e <;> (unfold ixR; dsimp only [DV.items]; rw [h]; exact q)
theorem l_slT {lo hi : Option Int} (q : Q (.d (.tup (cut ds lo hi)))) : slR (.d (.tup ds)) lo hi Q := by unfold slR; exact q
theorem l_slS {lo hi : Option Int} (hz : z.length ≤ szl) (q : Q (.d (.str (cutS z lo hi)))) : slR (.d (.str z)) lo hi Q := by unfold slR; exact ⟨hz, q⟩
theorem l_slL {lo hi : Option Int} (hv : v.items = some ds) (q : Q (.own (.lst (cut ds lo hi)))) : slR v lo hi Q := by
  unfold slR
  split
  · cases hv
  · cases hv
  · rw [hv]; exact q
theorem l_join {ss : List Str} (hv : seqD v = some ds) (hs : strsD ds = some ss) (h : (ss.map (·.length)).sum + ss.length * a.length ≤ 16777216) (q : Q (.d (.str (Txt.join a ss)))) : joinR (.d (.str a)) v Q := by
  unfold joinR
  dsimp only
  rw [hv]
  dsimp only
  rw [hs]
  exact ⟨h, q⟩
end
end DL

set_option Elab.async false
set_option linter.all false
set_option maxRecDepth 100000
set_option autoImplicit false
set_option maxHeartbeats 2000000
/-! comprehensions and loops of a known course -/
namespace DL
open PySem PySem.Spec PyProof.Rows L2
section
variable {g : TDG} {tt : TDT} {te : TD} {vs : List Nat} {Q : DV → DSt → Prop}
theorem lcL_fm (p : D → Bool) (f : D → D) (S : DSt) : ∀ (ds acc : List D), acc.length + ds.length ≤ szl →
    (∀ d ∈ ds, ∀ (M : D → DSt → Prop) (A : DSt → Prop), (p d = true → M (f d) S) → (p d = false → A S) → g d S fun s1 => tt s1 (fun b s2 => Br b (te s2 (fun x s3 => match pubV x with
      | .d y => M y (wipeD s3 vs)
      | _ => False) fun _ _ _ => False) (A (wipeD s2 vs))) fun _ _ _ => False) →
    Q (.own (.lst (acc ++ (ds.filter p).map f))) S → dLcL g tt te vs Q ds acc S
  | [], acc, _, _, q => by rw [lcL_nil]; rw [List.filter_nil, List.map_nil, List.append_nil] at q; exact q
  | d :: r, acc, hl, step, q => by
    rw [lcL_cons]
    have hl2 : acc.length + (r.length + 1) ≤ szl := hl
    refine step d (List.mem_cons_self ..) (fun y s => acc.length < szl ∧ dLcL g tt te vs Q r (acc ++ [y]) s) (fun s => dLcL g tt te vs Q r acc s) (fun e => ⟨by omega, ?_⟩) (fun e => ?_)
    · refine lcL_fm p f S r _ (by rw [List.length_append, List.length_singleton]; omega) (fun d' h => step d' (List.mem_cons_of_mem _ h)) ?_
      rw [List.filter_cons_of_pos e, List.map_cons] at q
      rw [List.append_assoc, List.singleton_append]; exact q
    · refine lcL_fm p f S r _ (by omega) (fun d' h => step d' (List.mem_cons_of_mem _ h)) ?_
      rw [List.filter_cons_of_neg (by simp [e])] at q
      exact q
theorem lcL_map (f : D → D) (S : DSt) {ds : List D} (hl : ds.length ≤ szl)
    (step : ∀ d ∈ ds, ∀ (M : D → DSt → Prop) (A : DSt → Prop), M (f d) S → g d S fun s1 => tt s1 (fun b s2 => Br b (te s2 (fun x s3 => match pubV x with
      | .d y => M y (wipeD s3 vs)
      | _ => False) fun _ _ _ => False) (A (wipeD s2 vs))) fun _ _ _ => False) (q : Q (.own (.lst (ds.map f))) S) : dLcL g tt te vs Q ds [] S :=
  lcL_fm (fun _ => true) f S ds [] (by simpa using hl) (fun d h M A m _ => step d h M A (m rfl)) (by rw [List.filter_eq_self.mpr (fun _ _ => rfl)]; exact q)
/-- a comprehension whose entries are only known to be of a kind -/
theorem lcL_rel (R : D → Prop) (S : DSt) {ds0 : List D} (hl : ds0.length ≤ szl)
    (step : ∀ d ∈ ds0, ∀ (M : D → DSt → Prop) (A : DSt → Prop), (∀ y, R y → M y S) → g d S fun s1 => tt s1 (fun b s2 => Br b (te s2 (fun x s3 => match pubV x with
      | .d y => M y (wipeD s3 vs)
      | _ => False) fun _ _ _ => False) (A (wipeD s2 vs))) fun _ _ _ => False) (q : ∀ xs : List D, xs.length = ds0.length → (∀ x ∈ xs, R x) → Q (.own (.lst xs)) S) : dLcL g tt te vs Q ds0 [] S := by
  have go : ∀ (ds acc : List D), acc.length + ds.length = ds0.length → (∀ d ∈ ds, d ∈ ds0) → (∀ x ∈ acc, R x) → dLcL g tt te vs Q ds acc S := by
    intro ds
    induction ds with
    | nil => intro acc h1 _ h3; rw [lcL_nil]; exact q acc (by simpa using h1) h3
    | cons d r ih =>
      intro acc h1 h2 h3
      rw [List.length_cons] at h1
      rw [lcL_cons]
      refine step d (h2 d (List.mem_cons_self ..)) (fun y s => acc.length < szl ∧ dLcL g tt te vs Q r (acc ++ [y]) s) (fun s => dLcL g tt te vs Q r acc s) (fun y hy => ⟨by omega, ?_⟩)
      refine ih (acc ++ [y]) (by rw [List.length_append, List.length_singleton]; omega) (fun d' h => h2 d' (List.mem_cons_of_mem _ h)) (fun x hx => ?_)
      rcases List.mem_append.mp hx with h | h
      · exact h3 x h
      · rw [List.mem_singleton.mp h]; exact hy
  exact go ds0 [] (by simp) (fun _ h => h) (fun _ h => (nomatch h))
end
theorem bools_map {α : Type} (f : α → Bool) (xs : List α) : bools (xs.map fun x => D.bl (f x)) = some (xs.map f) := by
  induction xs with
  | nil => rfl
  | cons x r ih => show (bools (r.map fun x => D.bl (f x))).map (f x :: ·) = _; rw [ih]; rfl
theorem signs_len (z : Str) : (signs z).length = z.length := by simp [signs, Str.length]
theorem mem_signs {z : Str} {d : D} (h : d ∈ signs z) : ∃ c ∈ z.cps.toList, d = .str ⟨#[c]⟩ := by
  obtain ⟨c, h1, h2⟩ := List.mem_map.mp h
  exact ⟨c, h1, h2.symm⟩
end DL
namespace DL
open PySem PySem.Spec PyProof.Rows L2
theorem up_ss {X : Cx} (W : WX) {sts : List Stmt} {t : TDS} (h : DSs X W sts t) : PSs X sts (upS X.K W t) := h
theorem binds_of {K : PySem.W.Frag} {x qual : Str} {params : Arguments} {body : List Stmt} {scope : Scope} {kws : List (Str × V)} {f : Addr} {fd : FuncData} {ps : List Str} (F : FunD K x qual params body scope [] kws f fd)
    (h : ∀ (kV doc pm : Value) (an : Option Addr) (cdv ct : Value) (us : List Value), us.length = ps.length → bindArgs (PySem.W.fnOf x qual params body scope .none kV doc pm an cdv ct) ⟨us, []⟩ = pure (ps.zip us)) : Binds K fd ps [] := by
  obtain ⟨oc, od, dV, kV, doc, pm, an, cdv, ct, osl, rfl, lk, hcd, hD, hK⟩ := F.ex
  rcases hD with ⟨_, rfl⟩ | ⟨e, _⟩
  · exact Binds.all fun us hl => h kV doc pm an cdv ct us hl
  · exact absurd rfl e
theorem binds1_of {K : PySem.W.Frag} {x qual p : Str} {params : Arguments} {body : List Stmt} {scope : Scope} {kws : List (Str × V)} {f : Addr} {fd : FuncData} (F : FunD K x qual params body scope [] kws f fd)
    (h : ∀ (kV doc pm : Value) (an : Option Addr) (cdv ct : Value) (u : Value), bindArgs (PySem.W.fnOf x qual params body scope .none kV doc pm an cdv ct) ⟨[u], []⟩ = pure [(p, u)]) (s : Shared) (u : Value) : BindsTo s fd ⟨[u], []⟩ [(p, u)] := by
  obtain ⟨oc, od, dV, kV, doc, pm, an, cdv, ct, osl, rfl, lk, hcd, hD, hK⟩ := F.ex
  rcases hD with ⟨_, rfl⟩ | ⟨e, _⟩
  · exact .of_eq (h kV doc pm an cdv ct u)
  · exact absurd rfl e
end DL

set_option Elab.async false
set_option linter.all false
set_option maxRecDepth 100000
set_option autoImplicit false
set_option maxHeartbeats 2000000
/-! words and shown lists -/
namespace DL
open PySem PySem.Spec PyProof.Rows L2
abbrev sgS (c : Nat) : Str := ⟨#[c]⟩
abbrev sgD (c : Nat) : D := .str (sgS c)
abbrev wd (cs : List Nat) : Str := ⟨cs.toArray⟩
theorem wd_len (cs : List Nat) : (wd cs).length = cs.length := by simp [Str.length]
theorem strs_sg (cs : List Nat) : strsD (cs.map sgD) = some (cs.map sgS) := by
  induction cs with
  | nil => rfl
  | cons c r ih => show (strsD (r.map sgD)).map (sgS c :: ·) = _; rw [ih]; rfl
theorem sg_ex {A : List Nat} : ∀ {xs : List D}, (∀ x ∈ xs, ∃ c ∈ A, x = sgD c) → ∃ cs : List Nat, xs = cs.map sgD ∧ ∀ c ∈ cs, c ∈ A
  | [], _ => ⟨[], rfl, fun _ h => (nomatch h)⟩
  | x :: r, h => by
    obtain ⟨c, h1, h2⟩ := h x (List.mem_cons_self ..)
    obtain ⟨cs, h3, h4⟩ := sg_ex (xs := r) fun y hy => h y (List.mem_cons_of_mem _ hy)
    refine ⟨c :: cs, by rw [h2, h3]; rfl, fun e he => ?_⟩
    rcases List.mem_cons.mp he with z | z
    · rw [z]; exact h1
    · exact h4 e z
theorem joinL_sg : ∀ cs : List Nat, TL.joinL [] (cs.map fun c => [c]) = cs
  | [] => rfl
  | [_] => rfl
  | c :: e :: r => by
    show [c] ++ ([] ++ TL.joinL [] ((e :: r).map fun c => [c])) = _
    rw [joinL_sg (e :: r)]; rfl
theorem join_sg (cs : List Nat) : Txt.join "" (cs.map sgS) = wd cs := by
  refine TL.ext_tl ?_
  rw [TL.join_eq, TL.tl_join, List.map_map]
  exact joinL_sg cs
theorem sum_sg (cs : List Nat) : ((cs.map sgS).map (·.length)).sum = cs.length := by
  induction cs with
  | nil => rfl
  | cons c r ih => rw [List.map_cons, List.map_cons, List.sum_cons, ih, List.length_cons]; show 1 + _ = _; omega
theorem l_joinW {v : DV} {cs : List Nat} {Q : DV → Prop} (hv : seqD v = some (cs.map sgD)) (hl : cs.length ≤ szl) (q : Q (.d (.str (wd cs)))) : joinR (.d (.str "")) v Q := by
  refine l_join hv (strs_sg cs) ?_ (by rw [join_sg]; exact q)
  rw [sum_sg, List.length_map]
  show cs.length + cs.length * 0 ≤ _
  have : szl = 16777216 := rfl
  omega
end DL
namespace DL
open PySem PySem.Spec PyProof.Rows L2
section
variable {t u : TDS} {te : TD} {E : EndsD} {sl : DSt} {i : Nat}
/-- a row, and what holds of the slots behind it -/
theorem seq_cut (P : DSt → Prop) (h : ∀ N : DSt → Prop, (∀ s, P s → N s) → t { E with nx := N } sl) (q : ∀ s, P s → u E s) : dSeq t u E sl := h _ q
/-- name = value, the value known -/
theorem set_cut (x : D) (h : ∀ Q : DV → DSt → Prop, Q (.d x) sl → te sl Q E.xc) (q : u E (sl.set i (some (.d x)))) : dSeq (dSet te i) u E sl := h _ q
theorem set_cutL (ds : List D) (h : ∀ Q : DV → DSt → Prop, Q (.own (.lst ds)) sl → te sl Q E.xc) (q : u E (sl.set i (some (.own (.lst ds))))) : dSeq (dSet te i) u E sl := h _ q
/-- the value only known to be of a kind -/
theorem set_cutP (R : D → Prop) (h : ∀ Q : DV → DSt → Prop, (∀ x, R x → Q (.d x) sl) → te sl Q E.xc) (q : ∀ x, R x → u E (sl.set i (some (.d x)))) : dSeq (dSet te i) u E sl := h _ q
end
theorem eqv_nil (ps : List PyData) : PyData.eqv (.list ps) (.list []) = ps.isEmpty := by
  cases ps <;> simp [PyData.eqv, PyData.eqvAll]
theorem textFrom_le (L : Nat) : ∀ (ts : List Str) (k : Nat) (acc : Str), (∀ t ∈ ts, t.length ≤ L) → (PySem.textFrom k acc ts).length ≤ acc.length + ts.length * (L + 2)
  | [], k, acc, _ => by show acc.length ≤ _; omega
  | t :: r, k, acc, h => by
    have h1 := textFrom_le L r (k + 1) (acc ++ (if k > 0 then ", " else "" : String) ++ t) fun y hy => h y (List.mem_cons_of_mem _ hy)
    have h2 := h t (List.mem_cons_self ..)
    have e : (acc ++ (if k > 0 then ", " else "" : String) ++ t).length = acc.length + (if k > 0 then 2 else 0) + t.length := by
      rw [strLen_append, strLen_append]
      split <;> rfl
    rw [e] at h1
    show (PySem.textFrom (k + 1) (acc ++ (if k > 0 then ", " else "" : String) ++ t) r).length ≤ _
    rw [List.length_cons, Nat.add_mul]
    have h3 : (if k > 0 then 2 else 0) ≤ 2 := by split <;> omega
    omega
theorem join_le (L : Nat) : ∀ ts : List Str, (∀ t ∈ ts, t.length ≤ L) → (Str.join ", " ts).length ≤ ts.length * (L + 2)
  | [], _ => by show 0 ≤ _; omega
  | [x], h => by have := h x (List.mem_cons_self ..); show x.length ≤ 1 * (L + 2); omega
  | x :: y :: r, h => by
    have h1 := join_le L (y :: r) fun t ht => h t (List.mem_cons_of_mem _ ht)
    have h2 := h x (List.mem_cons_self ..)
    show (x ++ ", " ++ Str.join ", " (y :: r)).length ≤ (r.length + 1 + 1) * (L + 2)
    rw [strLen_append, strLen_append]
    have e2 : ((", " : String) : Str).length = 2 := rfl
    rw [List.length_cons] at h1
    rw [Nat.add_mul (r.length + 1)]
    omega
/-- a tree that is shown, with its depth and a bound on the text -/
structure Shw (n L : Nat) (d : D) (p : PyData) : Prop where
  py : d.py = some p
  lay : p.canLay0 = true
  dp : p.depth ≤ n
  sw : p.showable = true
  ln : p.shown.length ≤ L
inductive ShwAll (n L : Nat) : List D → List PyData → Prop where
  | nil : ShwAll n L [] []
  | cons {d : D} {p : PyData} {ds : List D} {ps : List PyData} (h : Shw n L d p) (t : ShwAll n L ds ps) : ShwAll n L (d :: ds) (p :: ps)
theorem ShwAll.map {n L : Nat} {α : Type} {f : α → D} {g : α → PyData} : ∀ {xs : List α}, (∀ x ∈ xs, Shw n L (f x) (g x)) → ShwAll n L (xs.map f) (xs.map g)
  | [], _ => .nil
  | x :: r, h => .cons (h x (List.mem_cons_self ..)) (ShwAll.map fun y hy => h y (List.mem_cons_of_mem _ hy))
namespace Shw
variable {n m L M : Nat} {d : D} {p : PyData}
theorem mono (h : Shw n L d p) (h1 : n ≤ m) (h2 : L ≤ M) : Shw m M d p := ⟨h.py, h.lay, Nat.le_trans h.dp h1, h.sw, Nat.le_trans h.ln h2⟩
theorem non : Shw 0 4 .non .none := ⟨rfl, by simp [PyData.canLay0], by simp [PyData.depth], by simp [PyData.showable], by simp [PyData.shown]; decide⟩
theorem bl (b : Bool) : Shw 0 5 (.bl b) (.bool b) := ⟨rfl, by simp [PyData.canLay0], by simp [PyData.depth], by simp [PyData.showable], by cases b <;> simp [PyData.shown] <;> decide⟩
theorem str {z : Str} (h : ∀ c ∈ z.cps.toList, c < 0x110000) (hl : z.length ≤ m) : Shw 0 (10 * m + 2) (.str z) (.str z) := by
  refine ⟨rfl, ?_, by simp [PyData.depth], by simp [PyData.showable], ?_⟩
  · simp only [PyData.canLay0, PyData.strOk]
    rw [Array.all_eq_true']
    intro c hc
    exact decide_eq_true (h c (Array.mem_def.mp hc))
  · have := PySem.StrLaws.reprText_len z fun c hc => Nat.lt_trans (h c hc) (by decide)
    simp only [PyData.shown]
    omega
theorem int {i : Int} {k : Nat} (hk : 0 < k) (h2 : k ≤ 500) (h0 : 0 ≤ i) (h : i < 10 ^ k) : Shw 0 k (.int i) (.int i) := by
  refine ⟨rfl, by simp [PyData.canLay0], by simp [PyData.depth], ?_, ?_⟩
  · simp only [PyData.showable]
    refine decide_eq_true ?_
    rcases Nat.eq_zero_or_pos i.natAbs with z | z
    · rw [z]; decide
    refine (Nat.log2_lt (by omega)).mpr ?_
    have h3 : i.natAbs < 10 ^ k := by
      have : ((i.natAbs : Nat) : Int) < ((10 ^ k : Nat) : Int) := by rw [Int.natAbs_of_nonneg h0]; simpa using h
      exact Int.ofNat_lt.mp this
    refine Nat.lt_of_lt_of_le h3 (Nat.le_trans (Nat.pow_le_pow_right (by decide) h2) ?_)
    decide +kernel
  · simp only [PyData.shown]
    exact toString_length_le h0 hk h
theorem all : ∀ {ds : List D} {ps : List PyData}, ShwAll n L ds ps → D.pyAll ds = some ps ∧ PyData.canLayAll0 ps = true ∧ PyData.depthAll ps ≤ n ∧ PyData.showableAll ps = true ∧ (∀ t ∈ PyData.shownAll ps, t.length ≤ L) ∧ (PyData.shownAll ps).length = ds.length
  | _, _, .nil => ⟨by simp [D.pyAll], by simp [PyData.canLayAll0], by simp [PyData.depthAll], by simp [PyData.showableAll], by simp [PyData.shownAll], by simp [PyData.shownAll]⟩
  | _, _, .cons (d := d) (p := p) (ds := ds) (ps := ps) h t => by
    obtain ⟨h1, h2, h3, h4, h5, h6⟩ := all t
    refine ⟨?_, ?_, ?_, ?_, ?_, ?_⟩
    · unfold D.pyAll; rw [h.py, h1]
    · unfold PyData.canLayAll0; rw [h.lay, h2]; rfl
    · unfold PyData.depthAll; exact Nat.max_le.mpr ⟨h.dp, h3⟩
    · unfold PyData.showableAll; rw [h.sw, h4]; rfl
    · unfold PyData.shownAll
      intro t ht
      rcases List.mem_cons.mp ht with z | z
      · rw [z]; exact h.ln
      · exact h5 t z
    · unfold PyData.shownAll; rw [List.length_cons, List.length_cons, h6]
theorem lst {ds : List D} {ps : List PyData} (h : ShwAll n L ds ps) (hl : ds.length ≤ m) : Shw (n + 1) (m * (L + 2) + 2) (.lst ds) (.list ps) := by
  obtain ⟨h1, h2, h3, h4, h5, h6⟩ := all h
  refine ⟨by unfold D.py; rw [h1]; rfl, by unfold PyData.canLay0; exact h2, by unfold PyData.depth; omega, by unfold PyData.showable; exact h4, ?_⟩
  unfold PyData.shown listText
  rw [strLen_append]
  have := textFrom_le L (PyData.shownAll ps) 0 "[" h5
  have e1 : (("[" : String) : Str).length = 1 := rfl
  have e2 : (("]" : String) : Str).length = 1 := rfl
  rw [h6] at this
  have := Nat.mul_le_mul_right (L + 2) hl
  omega
theorem tup {ds : List D} {ps : List PyData} (h : ShwAll n L ds ps) (hl : ds.length ≤ m) : Shw (n + 1) (m * (L + 2) + 3) (.tup ds) (.tuple ps) := by
  obtain ⟨h1, h2, h3, h4, h5, h6⟩ := all h
  refine ⟨by unfold D.py; rw [h1]; rfl, by unfold PyData.canLay0; exact h2, by unfold PyData.depth; omega, by unfold PyData.showable; exact h4, ?_⟩
  unfold PyData.shown tupleText
  rw [strLen_append, strLen_append]
  have e1 : (("(" : String) : Str).length = 1 := rfl
  have e2 : ((if (PyData.shownAll ps).length == 1 then ",)" else ")" : String) : Str).length ≤ 2 := by split <;> decide
  have e3 : (Str.join ", " (PyData.shownAll ps)).length ≤ m * (L + 2) := by
    have j := join_le L (PyData.shownAll ps) h5
    rw [h6] at j
    exact Nat.le_trans j (Nat.mul_le_mul_right _ hl)
  omega
end Shw
theorem Shw.shows {n L : Nat} {d : D} {p : PyData} (h : Shw n L d p) (hs : (∃ ds, d = .lst ds) ∨ ∃ ds, d = .tup ds) (h1 : n ≤ 64) (h2 : L ≤ szl) : Shows d p := ⟨h.py, hs, by simp [SeqAt.shaped, h.lay, Nat.le_trans h.dp h1], h.sw, Nat.le_trans h.ln h2⟩
end DL

set_option Elab.async false
set_option linter.all false
set_option maxRecDepth 100000
set_option autoImplicit false
set_option maxHeartbeats 2000000
/-! the head: what the top has written, by names -/
namespace DL
open PySem PySem.Spec PyProof.Rows L2
mutual
def datB (K : PySem.W.Frag) : D → Value → Bool
  | .non, u => (match u with | .none => true | _ => false)
  | .bl b, u => (match u with | .bool c => b == c | _ => false)
  | .int i, u => (match u with | .int j _ => decide (i = j) | _ => false)
  | .str x, u => (match u with | .str y _ => decide (x = y) | _ => false)
  | .tup ds, u => (match u with
    | .ref a => (match K.lookup a with
      | some ⟨.type c, _, .seq its _, _⟩ => decide (c = "tuple") && (decide (its.size ≤ sizeLine) && datsB K ds its.toList)
      | _ => false)
    | _ => false)
  | _, _ => false
def datsB (K : PySem.W.Frag) : List D → List Value → Bool
  | [], us => us.isEmpty
  | d :: ds, us => (match us with
    | u :: r => datB K d u && datsB K ds r
    | [] => false)
end
mutual
theorem datB_ok {K : PySem.W.Frag} : ∀ (d : D) (u : Value), datB K d u = true → ∃ v, RelV v u ∧ ∀ G, DOk K G v d
  | .non, u, h => by
    unfold datB at h
    split at h
    · exact ⟨.non, rfl, fun _ => .non⟩
    · cases h
  | .bl b, u, h => by
    unfold datB at h
    split at h
    · have e := eq_of_beq h
      exact ⟨.bl b, by rw [e]; rfl, fun _ => .bl b⟩
    · cases h
  | .int i, u, h => by
    unfold datB at h
    split at h
    · rename_i t
      exact ⟨.int i, ⟨t, by rw [of_decide_eq_true h]⟩, fun _ => .int i⟩
    · cases h
  | .str x, u, h => by
    unfold datB at h
    split at h
    · rename_i t
      exact ⟨.str x, ⟨t, by rw [of_decide_eq_true h]⟩, fun _ => .str x⟩
    · cases h
  | .tup ds, u, h => by
    unfold datB at h
    split at h
    · rename_i a
      split at h
      · rename_i c od its n sl q
        obtain ⟨h1, h2⟩ := He.ba h
        obtain ⟨h3, h4⟩ := He.ba h2
        obtain ⟨vs, r, w⟩ := datsB_ok ds its.toList h4
        exact ⟨.ref a, rfl, fun G => .tup (.inr ⟨_, its, n, q, congrArg Value.type (of_decide_eq_true h1), rfl, of_decide_eq_true h3, r⟩) (w G)⟩
      · cases h
    · cases h
  | .lst _, _, h => by unfold datB at h; cases h
  | .ins _ _, _, h => by unfold datB at h; cases h
  | .dk _, _, h => by unfold datB at h; cases h
  | .dt _, _, h => by unfold datB at h; cases h
  | .any, _, h => by unfold datB at h; cases h
  | .raw _, _, h => by unfold datB at h; cases h
theorem datsB_ok {K : PySem.W.Frag} : ∀ (ds : List D) (us : List Value), datsB K ds us = true → ∃ vs, Vals vs us ∧ ∀ G, DAll K G vs ds
  | [], us, h => by
    unfold datsB at h
    rw [List.isEmpty_iff] at h
    subst h
    exact ⟨[], .nil, fun _ => .nil⟩
  | d :: ds, us, h => by
    unfold datsB at h
    split at h
    · rename_i u r
      obtain ⟨h1, h2⟩ := He.ba h
      obtain ⟨v, r1, w1⟩ := datB_ok d u h1
      obtain ⟨vs, r2, w2⟩ := datsB_ok ds r h2
      exact ⟨v :: vs, .cons r1 r2, fun G => .cons (w1 G) (w2 G)⟩
    · cases h
end
def gloB (K : PySem.W.Frag) (q : Str × D) : Bool := match PySem.W.nsIn K mainGlobals q.1 with
  | some (some u) => datB K q.2 u
  | _ => false
theorem gloB_ok {K : PySem.W.Frag} {h : Heap} {mg : Str → Option Value} (X : K.In h) (G : h.Ns mainGlobals mg) {x : Str} {d : D} (c : gloB K (x, d) = true) : GlobD K mg x d := by
  unfold gloB at c
  split at c
  · rename_i u e
    obtain ⟨v, r, w⟩ := datB_ok d u c
    exact ⟨v, u, PySem.W.mg_of X G e, r, w⟩
  · cases c
def bltB (K : PySem.W.Frag) (q : Str × String) : Bool := He.eqO (PySem.W.nsIn K mainGlobals q.1) (some (some (.builtin q.2)))
/-- what the module's names reach, the static things, the cells of closures -/
def asX (g : Addr → Option Obj) (n : Nat) : List Addr := He.asD g n ++ cStatics :: (He.asD g n).flatMap fun a => match g a with
  | some ⟨_, _, .func fd, _⟩ => fd.closure.map (·.2) ++ He.refV fd.code
  | some ⟨.type c, _, .seq its _, _⟩ => if c == "tuple" then its.toList.flatMap He.refV else []
  | _ => []
/-- the Hook: names, defs, constants, checks of one's own -/
abbrev AlX : Type := Bool × He.AlD
structure LX where
  cs : List (Str × D)
  bs : List (Str × String)
  xs : List (PySem.W.Frag → Bool)
/-- the tables of the defs with lambdas: empty, with their code objects, one name each -/
def lamOk (g : Addr → Option Obj) (K : PySem.W.Frag) : Bool := (lamFns K).all fun q => PySem.W.codeHdIn K q.1 q.2.1 && ((match g q.2.1 with
  | some o => He.emptyTab o
  | none => false) && (lamFns K).all fun q' => q.2.1 != q'.2.1 || q.2.2 == q'.2.2)
def LX.ok (l : LX) (g : Addr → Option Obj) (K : PySem.W.Frag) : Bool := (l.cs.all (gloB K) && (l.bs.all (bltB K) && l.xs.all fun x => x K)) && lamOk g K
def valX (fn : List He.DefD) : AlX := (true, He.valD fn)
structure SaysX (l : LX) (fa : List He.Fa) (fn : List He.DefD) (h : Heap) (K : PySem.W.Frag) : Prop where
  c : (l.cs.all (gloB K) && (l.bs.all (bltB K) && l.xs.all fun x => x K)) = true
  s : He.SaysD fa fn K
  tc : ∀ q ∈ lamFns K, PySem.W.codeHdIn K q.1 q.2.1 = true
  tn : ∀ q ∈ lamFns K, K.lookup q.2.1 = none
  te : ∀ q ∈ lamFns K, h.get? q.2.1 = some { cls := .none, data := .fields #[] }
  tu : LamUq K
def obsXG (n : Nat) (l : LX) (fa : List He.Fa) (fn : List He.DefD) (g : Addr → Option Obj) : AlX := (l.ok g (He.frT g (asX g n)), He.obsD fa fn (He.frT g (asX g n)))
theorem says_of {n : Nat} {l : LX} {fa : List He.Fa} {fn : List He.DefD} {h : Heap} (e : obsXG n l fa fn h.get? = valX fn) : SaysX l fa fn h (He.frT h.get? (asX h.get? n)) := by
  have e1 : l.ok h.get? (He.frT h.get? (asX h.get? n)) = true := congrArg (fun z : AlX => z.1) e
  obtain ⟨h1, h2⟩ := He.ba e1
  have key : ∀ q ∈ lamFns (He.frT h.get? (asX h.get? n)), PySem.W.codeHdIn (He.frT h.get? (asX h.get? n)) q.1 q.2.1 = true ∧ (∃ o, h.get? q.2.1 = some o ∧ He.emptyTab o = true) ∧ ∀ q' ∈ lamFns (He.frT h.get? (asX h.get? n)), q.2.1 = q'.2.1 → q.2.2 = q'.2.2 := fun q hq => by
    obtain ⟨z1, z2⟩ := He.ba (List.all_eq_true.mp h2 q hq)
    obtain ⟨z3, z4⟩ := He.ba z2
    refine ⟨z1, ?_, fun q' hq' e => ?_⟩
    · split at z3
      · rename_i o y
        exact ⟨o, y, z3⟩
      · cases z3
    · have y := List.all_eq_true.mp z4 q' hq'
      rw [Bool.or_eq_true, bne_iff_ne, beq_iff_eq] at y
      exact y.resolve_left fun z => z e
  refine ⟨h1, congrArg (fun z : AlX => z.2) e, fun p hp => (key p hp).1, fun p hp => ?_, fun p hp => ?_, fun q hq q' hq' => (key q hq).2.2 q' hq'⟩
  · obtain ⟨_, ⟨o, q, z⟩, _⟩ := key p hp
    exact He.frT_none q z
  · obtain ⟨_, ⟨o, q, z⟩, _⟩ := key p hp
    rw [q, He.emptyTab_eq z]
def hookX (n : Nat) (l : LX) (fa : List He.Fa) (fn : List He.DefD) : PySem.W.Hook where
  α := AlX
  obs := fun s => obsXG n l fa fn s.heap.get?
  val := fun _ => valX fn
  says := fun _ h => ∃ K : PySem.W.Frag, K.In h ∧ SaysX l fa fn h K
  of := fun _ _ e => ⟨_, He.frT_in, says_of e⟩
  keeps := fun _ _ _ ⟨K, hK, c⟩ k => ⟨K, PySem.W.Frag.In.keeps hK k, ⟨c.c, c.s, c.tc, c.tn, fun p hp => k _ _ (c.te p hp), c.tu⟩⟩
theorem obsXG_eq {n : Nat} {l : LX} {fa : List He.Fa} {fn : List He.DefD} {g : Addr → Option Obj} {s : Shared} (h : ∀ a, g a = s.heap.get? a) : obsXG n l fa fn g = (hookX n l fa fn).obs s := by
  have e : g = s.heap.get? := funext h
  rw [e] <;> rfl
section
variable {l : LX} {fa : List He.Fa} {fn : List He.DefD} {h h0 : Heap} {K : PySem.W.Frag} {mg : Str → Option Value}
theorem SaysX.glob (S : SaysX l fa fn h0 K) (X : K.In h) (G : h.Ns mainGlobals mg) (i : Nat) {x : Str} {d : D} (e : l.cs[i]? = some (x, d) := by rfl) : GlobD K mg x d :=
  gloB_ok X G (List.all_eq_true.mp (He.ba S.c).1 _ (List.mem_of_getElem? e))
theorem SaysX.blt (S : SaysX l fa fn h0 K) (X : K.In h) (G : h.Ns mainGlobals mg) (i : Nat) {x : Str} {b : String} (e : l.bs[i]? = some (x, b) := by rfl) : mg x = some (.builtin b) :=
  PySem.W.mg_of X G (He.eqO_ok (List.all_eq_true.mp (He.ba (He.ba S.c).2).1 _ (List.mem_of_getElem? e)))
theorem SaysX.chk (S : SaysX l fa fn h0 K) (i : Nat) {x : PySem.W.Frag → Bool} (e : l.xs[i]? = some x := by rfl) : x K = true :=
  List.all_eq_true.mp (He.ba (He.ba S.c).2).2 _ (List.mem_of_getElem? e)
end
/-- a def with lambdas is among them -/
theorem lam_mem {K : PySem.W.Frag} {x qual : Str} {params : Arguments} {body : List Stmt} {scope : Scope} {dvs : List V} {kws : List (Str × V)} {f : Addr} {fd : FuncData} (F : FunD K x qual params body scope dvs kws f fd) (h : lamNames.contains qual = true) : ∃ c, fd.code = .ref c ∧ (c, He.tabOf K c, qual ++ ".<locals>." ++ "<lambda>") ∈ lamFns K := by
  obtain ⟨oc, od, dV, kV, doc, pm, an, cdv, ct, osl, rfl, lk, hcd, _, _⟩ := F.ex
  obtain ⟨c, rfl⟩ := He.codeIn_ref hcd
  refine ⟨c, rfl, List.mem_filterMap.mpr ⟨_, He.lookup_mem lk, ?_⟩⟩
  show (if lamNames.contains qual = true then some (c, He.tabOf K c, qual ++ ".<locals>." ++ "<lambda>") else none) = _
  rw [if_pos h]
/-- the law's end -/
theorem walk_ofX {l : PySem.W.OpenLaw} {n k : Nat} {q : Program} {loose : List Str} {XP : (Str → Option Value) → Heap → Prop} {YP : World → Heap → Prop} {d : DefRec} {x : Str}
    (hn : l.most = some n) (hn2 : n ≤ sizeLine) (hdf : d.params.defaults = []) (hr : Room k callerA)
    (F : ∀ (w : World) (mg : Str → Option Value) (fa : Addr) (h : Heap), YP w h → h.Ns mainGlobals mg → mg d.name = some (.ref fa) →
      ∃ (K : PySem.W.Frag) (fd : FuncData) (sp : Sp), K.In h ∧ (∀ (s : Shared) (u : Value), BindsTo s fd ⟨[u], []⟩ [(x, u)]) ∧
        (∀ q ∈ lamFns K, h.get? q.2.1 = some { cls := .none, data := .fields #[] }) ∧ (∀ q ∈ lamFns K, K.lookup q.2.1 = none) ∧ (∀ q ∈ lamFns K, PySem.W.codeHdIn K q.1 q.2.1 = true) ∧
        (∀ (H : Hp) (a : Addr) (ns : List Int), ns.length ≤ n → (∀ q ∈ lamFns K, H q.2.1 = some (.tbl #[])) → SqL K H a (ns.map V.int) → sp [.ref a] H (fun v _ => v = .bl true) fun _ _ _ => False) ∧
        ∀ base : Heap, K.In base → base.Ns mainGlobals mg → (∀ q ∈ lamFns K, LamX.TabB base mg q.1 q.2.1) → FnR l.prog w K mg base k fa fd [x] sp) :
    PySem.W.WalkO q loose XP YP l.row.toRowW d [] (fun f vs => PySem.call f vs) := by
  refine Att.attach_call hn hdf fun w s0 s1 mg mb fa o pm cd doc a vs ns G Y ho hd hcd hmg hobj hints hlen hg => ?_
  obtain ⟨K, fd, sp, KX, hb, t1, t2, t3, hsp, hF⟩ := F w mg fa _ Y G.T.g hmg
  have im : ∀ {p : Addr × Addr}, p ∈ (lamFns K).map (fun q => (q.1, q.2.1)) → ∃ q ∈ lamFns K, p = (q.1, q.2.1) := fun h => by
    obtain ⟨q, hq, e⟩ := List.mem_map.mp h
    exact ⟨q, hq, e.symm⟩
  have mi : ∀ q ∈ lamFns K, (q.1, q.2.1) ∈ (lamFns K).map (fun q => (q.1, q.2.1)) := fun q hq => List.mem_map.mpr ⟨q, hq, rfl⟩
  refine law_callG (cs := (lamFns K).map fun q => (q.1, q.2.1)) KX G.T.g G.T.b G.T.builtins G.T.nolimit hg (fun p hp => ?_) (fun p hp => ?_) (fun p hp => ?_) G.T.bmain hobj hints (Nat.le_trans hlen hn2) hr (fun base h1 h2 h3 => hF base h1 h2 fun q hq => h3 _ (mi q hq)) hb fun H hT hS => hsp H a ns hlen (fun q hq => hT _ (mi q hq)) hS
  · obtain ⟨q, hq, rfl⟩ := im hp; exact t1 q hq
  · obtain ⟨q, hq, rfl⟩ := im hp; exact t2 q hq
  · obtain ⟨q, hq, rfl⟩ := im hp; exact PySem.W.codeHd_of_K KX (t3 q hq)
end DL

set_option Elab.async false
set_option linter.all false
set_option maxRecDepth 100000
set_option autoImplicit false
set_option maxHeartbeats 2000000
/-! instances: fields, makers, methods; lists that are changed -/
namespace DL
open PySem PySem.Spec PyProof.Rows L2

/-! ### what is held alone is changed -/
section
variable {K : PySem.W.Frag} {G H : Hp} {so : So} {σ : L2.St} {sl : DSt} {i : Nat} {o o' : OO} {a : Addr} {u : HO}
theorem PostS.mut (r : Rep K G so σ H sl) (e1 : sl[i]? = some (some (.own o))) (e2 : σ[i]? = some (some (.ref a))) (w : OwnOk K G (upd H a u) a o') : PostS K G so σ H sl σ (upd H a u) G (sl.set i (some (.own o'))) := by
  have ow : Own sl σ a := ⟨i, o, e1, e2⟩
  obtain ⟨na, ga, sa⟩ := r.nown ow
  have li : i < sl.length := (List.getElem?_eq_some_iff.mp e1).1
  have ba : ∀ b, Own (sl.set i (some (.own o'))) σ b → Own sl σ b := fun b ⟨j, o2, f1, f2⟩ => by
    rcases get_set f1 with ⟨rfl, f3⟩ | ⟨nj, f3⟩
    · exact ⟨j, o, e1, f2⟩
    · exact ⟨j, o2, f3, f2⟩
  have gn : ∀ b q, G b = some q → b ≠ a := fun b q h z => by subst z; rw [ga] at h; cases h
  refine ⟨Ex.refl G, ⟨⟨fun b q h => by rw [upd_ne (gn b q h)]; exact r.h.ex b q h, fun b k e => (r.h.vol b k e).keep (Ex.refl G) (r.h.vol b k e).g (upd_ne fun z => sa (by rw [← z]; exact ⟨k, e⟩)), r.h.ok⟩, by rw [List.length_set]; exact r.len, fun j dv f => ?_, fun j k p p' b f1 f2 g1 g2 => ?_, fun j p b f1 f2 z => ?_, fun j p f => ?_⟩,
    fun b q h s n => by rw [upd_ne (fun z => n (by rw [z]; exact ow))]; exact h, fun _ _ g _ _ => g, fun b _ _ n z => n (ba b z), rfl⟩
  · rcases get_set f with ⟨rfl, f3⟩ | ⟨nj, f3⟩
    · cases f3
      exact ⟨_, e2, a, rfl, ga, sa, w⟩
    · obtain ⟨v, f4, f5⟩ := r.slots j dv f3
      refine ⟨v, f4, ?_⟩
      cases dv with
      | d x => exact f5
      | src => exact f5
      | own p =>
        obtain ⟨b, rfl, gb, sb, ok⟩ := f5
        have nb : b ≠ a := fun z => nj (r.sep j i p o b f3 e1 f4 (by rw [z]; exact e2))
        exact ⟨b, rfl, gb, sb, ok.keep (Ex.refl G) (upd_ne nb)⟩
      | bor p =>
        obtain ⟨b, rfl, sb, ok⟩ := f5
        have nb : b ≠ a := fun z => r.bor j p b f3 f4 (by rw [z]; exact ow)
        exact ⟨b, rfl, sb, ok.keep (Ex.refl G) (upd_ne nb)⟩
      | see p => exact absurd f3 (r.nse j p)
  · have h1 : ∃ q, sl[j]? = some (some (.own q)) := by
      rcases get_set f1 with ⟨rfl, _⟩ | ⟨_, z⟩
      · exact ⟨_, e1⟩
      · exact ⟨_, z⟩
    have h2 : ∃ q, sl[k]? = some (some (.own q)) := by
      rcases get_set f2 with ⟨rfl, _⟩ | ⟨_, z⟩
      · exact ⟨_, e1⟩
      · exact ⟨_, z⟩
    obtain ⟨q1, h1⟩ := h1
    obtain ⟨q2, h2⟩ := h2
    exact r.sep j k q1 q2 b h1 h2 g1 g2
  · rcases get_set f1 with ⟨_, f3⟩ | ⟨_, f3⟩
    · cases f3
    · exact r.bor j p b f3 f2 (ba b z)
  · rcases get_set f with ⟨_, f3⟩ | ⟨_, f3⟩
    · cases f3
    · exact r.nse j p f3
end
def putD (f : Str) (d : D) : List (Str × D) → List (Str × D)
  | [] => [(f, d)]
  | (g, x) :: r => if g = f then (g, d) :: r else (g, x) :: putD f d r
theorem FAll.put {K : PySem.W.Frag} {G : Hp} {f : Str} {v : V} {d : D} (h : DOk K G v d) : ∀ {vs : List (Str × V)} {fs : List (Str × D)}, FAll K G vs fs → FAll K G (putF f v vs) (putD f d fs)
  | _, _, .nil => .cons h .nil
  | _, _, .cons (x := x) q t => by
    unfold putF putD
    split
    · exact .cons h t
    · exact .cons q (FAll.put h t)
theorem FAll.length {K : PySem.W.Frag} {G : Hp} : ∀ {vs : List (Str × V)} {fs : List (Str × D)}, FAll K G vs fs → vs.length = fs.length
  | _, _, .nil => rfl
  | _, _, .cons _ t => congrArg (· + 1) t.length

/-! ### fields -/
def DV.inst : DV → Option (Addr × List (Str × D))
  | .d (.ins C fs) => some (C, fs)
  | .own (.ins _ C fs) => some (C, fs)
  | .bor (.ins _ C fs) => some (C, fs)
  | .see (.ins _ C fs) => some (C, fs)
  | _ => none
@[irreducible] def fldR (K : PySem.W.Frag) (f : Str) (x : DV) (Q : DV → Prop) : Prop := match x.inst with
  | some (C, fs) => Cls K C ∧ NoAttr K C f ∧ match fs.lookup f with
    | some d => Q (.d d)
    | none => False
  | none => False
section
variable {K : PySem.W.Frag} {G H : Hp} {so : So} {v : V} {dv : DV} {C : Addr} {fs : List (Str × D)}
theorem VOk.inst (h : HRep K G so H) (w : VOk K G so H v dv) (e : dv.inst = some (C, fs)) : ∃ a dx vs, v = .ref a ∧ H a = some (.ins C dx vs) ∧ FAll K G vs fs := by
  unfold DV.inst at e
  split at e
  · cases e
    cases w with
    | ins g g2 t => exact ⟨_, _, _, rfl, h.ex _ _ g, t⟩
  · cases e; obtain ⟨a, rfl, _, _, _, dx, vs, h1, _, h2⟩ := w; exact ⟨a, dx, vs, rfl, h1, h2⟩
  · cases e; obtain ⟨a, rfl, _, _, dx, vs, h1, _, h2⟩ := w; exact ⟨a, dx, vs, rfl, h1, h2⟩
  · cases e; obtain ⟨a, rfl, _, _, dx, vs, h1, _, h2⟩ := w; exact ⟨a, dx, vs, rfl, h1, h2⟩
  · cases e
theorem sem_fld {f : Str} : UnSem K (fun x H1 Q => ∃ a C dx fs v, x = .ref a ∧ H1 a = some (.ins C dx fs) ∧ Cls K C ∧ NoAttr K C f ∧ fs.lookup f = some v ∧ Q v H1) (fldR K f) := by
  intro G so H x dx Q R h w q hq
  unfold fldR at q
  split at q
  · rename_i C fs e
    obtain ⟨c, n, q⟩ := q
    split at q
    · rename_i d e2
      obtain ⟨a, dd, vs, rfl, h1, h2⟩ := w.inst h e
      obtain ⟨u, e3, e4⟩ := h2.look e2
      exact ⟨a, C, dd, vs, u, rfl, h1, c, n, e3, hq u H G _ (.dat h e4) q⟩
    · exact q.elim
  · exact q.elim
end
section
variable {X : Cx} {W : WX} {e o value : Expr} {f : Str} {pos pos' : Pos} {te : TD} {i : Nat}
theorem de_fld {K : PySem.W.Frag} (he : DE X W e te) (hK : X.K = K := by rfl) (hb : attributeBase e f X.env (eval e X.env) = eval e X.env := by rfl) : DE X W (.Attribute e f pos) (dUn (fldR K f) te) := by
  subst hK
  exact pe_imp (pe_fld he hb) fun _ _ _ h => up_un sem_fld h
/-- name.f = value, the instance held alone -/
def dFldSet (K : PySem.W.Frag) (te : TD) (i : Nat) (f : Str) : TDS := fun E sl => te sl (fun y s1 => match s1[i]?, pubV y with
  | some (some (.own (.ins x C fs))), .d d => Cls K C ∧ NoAttr K C f ∧ fs.length < 1000 ∧ E.nx (s1.set i (some (.own (.ins x C (putD f d fs)))))
  | _, _ => False) E.xc
theorem ds_fld {K : PySem.W.Frag} (ho : PE X o (tVar i)) (hv : DE X W value te) (hK : X.K = K := by rfl) (hs : swapsWith value (some (.Attribute o f pos')) pos.line X.env = pure false := by rfl) : DS X W (.Assign [.Attribute o f pos'] value pos) (dFldSet K te i f) := by
  subst hK
  refine ps_imp (ps_fld ho hv hs) fun D σ H ⟨G, so, sl, E, rep, q, ok⟩ => ?_
  refine ⟨G, so, sl, _, E.xc, rep, q, fun y H1 G1 dy s1 p1 z => ?_, ok.xc.ex⟩
  obtain ⟨G2, p2⟩ := p1.pub
  split at z
  · rename_i x C fs d e1 e2
    obtain ⟨c, n, l, z⟩ := z
    obtain ⟨v, f1, a, rfl, ga, sa, ex, dx, vs, h1, gd, h2⟩ := p2.rep.slots i _ e1
    subst ex
    have wy : DOk X.K G2 y d := by have := p2.val; rw [e2] at this; exact this
    refine ⟨.ref a, f1, a, C, dx, vs, rfl, h1, c, n, by rw [h2.length]; exact l, ?_⟩
    exact ok.nx σ _ G2 _ (p2.toPost.s.trans (PostS.mut (o' := .ins a C (putD f d fs)) p2.rep e1 f1 ⟨rfl, dx, _, upd_same, gd, h2.put wy⟩)) z
  · exact z.elim
/-- name.append(value), the list held alone -/
def dAppend (te : TD) (i : Nat) : TDS := fun E sl => (∃ ds, sl[i]? = some (some (.own (.lst ds)))) ∧ te sl (fun y s1 => match s1[i]?, pubV y with
  | some (some (.own (.lst ds))), .d d => ds.length < szl ∧ E.nx (s1.set i (some (.own (.lst (ds ++ [d])))))
  | _, _ => False) E.xc
theorem ds_append (ho : PE X o (tVar i)) (hv : DE X W value te) (hbase : attributeBase o "append" X.env (eval o X.env) = eval o X.env := by rfl)
    (hfew : ((backTo pos (starEach [value] X.env)).all (fun x => !x.1) && (backToKw pos (keywordEach [] X.env)).all (fun x => x.1.isSome)
      && decide ([value].length + ([] : List Keyword).length + (if ([] : List Keyword).isEmpty then 0 else 1) < 30)) = true := by rfl)
    (hline : (pos'.endLine == pos.line) = true := by rfl) (hs : starEach [value] X.env = (false, eval value X.env) :: starEach [] X.env := by rfl) (hplain : (backTo pos (starEach [] X.env)).any (·.1) = false := by rfl) {spos : Pos}
    (hsw : swapsWith (.Call (.Attribute o "append" pos') [value] [] pos) none spos.line X.env = pure false := by rfl) :
    DS X W (.Expr (.Call (.Attribute o "append" pos') [value] [] pos) spos) (dAppend te i) := by
  refine ps_imp (ps_expr (pe_bm PySem.F.plainAttrs_list PySem.F.slot_list_append PySem.F.type_list_append mt_append ho (pa_cons hv pa_nil hs) hbase hfew hline hs hplain) hsw) fun D σ H ⟨G, so, sl, E, rep, q, ok⟩ => ?_
  obtain ⟨⟨ds0, e0⟩, q⟩ := q
  obtain ⟨v0, f0, a, rfl, ga, sa, vs0, h0, d0⟩ := rep.slots i _ e0
  refine ⟨.ref a, f0, .inl ⟨rfl, _, SqL.of h0⟩, ?_⟩
  refine ⟨G, so, sl, _, E.xc, rep, q, fun y H1 G1 dy s1 p1 z => ?_, ok.xc.ex⟩
  obtain ⟨G2, p2⟩ := p1.pub
  split at z
  · rename_i ds d e1 e2
    obtain ⟨l, z⟩ := z
    obtain ⟨v, f1, b, rfl, gb, sb, vs, h1, h2⟩ := p2.rep.slots i _ e1
    rw [f0] at f1
    cases f1
    have wy : DOk X.K G2 y d := by have := p2.val; rw [e2] at this; exact this
    refine ⟨a, vs, y, rfl, rfl, h1, by rw [h2.length]; exact l, ?_⟩
    exact ok.nx σ _ G2 _ (p2.toPost.s.trans (PostS.mut (o' := .lst (ds ++ [d])) p2.rep e1 f0 ⟨_, upd_same, h2.append (.cons wy .nil)⟩)) z
  · exact z.elim
end
end DL

set_option Elab.async false
set_option linter.all false
set_option maxRecDepth 100000
set_option autoImplicit false
set_option maxHeartbeats 2000000
/-! makers of instances, methods -/
namespace DL
open PySem PySem.Spec PyProof.Rows L2
abbrev SpI := List DV → (List (Str × D) → Prop) → XE' → Prop
structure PostX (K : PySem.W.Frag) (G : Hp) (so : So) (H : Hp) (x : Addr) (H' G' : Hp) : Prop where
  ex : Ex G G'
  hrep : HRep K G' so H'
  keep : ∀ a o, H a = some o → so.Nt a → a ≠ x → H' a = some o
  frm : ∀ a, H a ≠ none → G a = none → so.Nt a → a ≠ x → G' a = none
structure PostI (K : PySem.W.Frag) (G : Hp) (so : So) (H : Hp) (x C : Addr) (H' G' : Hp) (fs : List (Str × D)) : Prop extends PostX K G so H x H' G' where
  own : OwnOk K G' H' x (.ins x C fs)
  gx : G' x = none
/-- the promise of __init__: the new instance at x is filled -/
def upIn (K : PySem.W.Frag) (C : Addr) (sp : SpI) : Sp := fun vs H Q E => ∃ x vs' G so args QD ED, vs = .ref x :: vs' ∧ HRep K G so H ∧ OwnOk K G H x (.ins x C []) ∧ G x = none ∧ so.Nt x ∧ VsOk K G so H vs' args ∧ sp args QD ED ∧
  (∀ H' G' fs, PostI K G so H x C H' G' fs → QD fs → Q .non H') ∧ (∀ cls d H' G' fs, PostX K G so H x H' G' → XdOk K G' H' d fs → ED cls fs → E cls d H')
def endI (x C : Addr) (Q : List (Str × D) → Prop) (sl : DSt) : Prop := ∃ fs, sl[0]? = some (some (.own (.ins x C fs))) ∧ Q fs
theorem start_get0 {N : List Str} {d e : DV} {args : List DV} {i : Nat} (h : (startD N (d :: args))[i]? = some (some e)) : (i = 0 ∧ e = d) ∨ ∃ j, i = j + 1 ∧ args[j]? = some e := by
  have z := start_get h
  cases i with
  | zero => left; simp at z; exact ⟨rfl, z.symm⟩
  | succ j => right; exact ⟨j, rfl, by simpa using z⟩
theorem start_at {N : List Str} {vs : List V} {i : Nat} {v : V} (h : vs[i]? = some v) : (L2.start N vs)[i]? = some (some v) := by
  unfold L2.start
  have hi : i < vs.length := (List.getElem?_eq_some_iff.mp h).1
  rw [List.getElem?_append_left (by simpa using hi), List.getElem?_map, h]; rfl
theorem fnI_of {P : Program} {w : World} {K : PySem.W.Frag} {mg : Str → Option Value} {base : Heap} {n qual : Str} {params : Arguments} {body : List Stmt} {scope : Scope} {dvs : List V} {kws : List (Str × V)} {f C : Addr} {fd : FuncData} {N ps : List Str} {k : Nat} {sp : SpI} {t : TDS}
    (F : FunD K n qual params body scope dvs kws f fd) (S : FnScope N ps scope) (len : ∀ args Q E, sp args Q E → args.length + 1 = ps.length) (nsee : ∀ args Q E, sp args Q E → ∀ (i : Nat) (o : OO), args[i]? ≠ some (.see o) ∧ args[i]? ≠ some (.bor o))
    (hd : ∀ (cdv : Value) (A : Around) (outer : List Env) (s : Shared) (H : Hp) (E : XK), Room k (A.deeper (envOfC qual scope s.heap.objs.size f cdv)) → (cxOf (L2N.CX P w) P w K mg base N qual scope f cdv A outer s H E).A.guards = some [] →
      DSs (cxOf (L2N.CX P w) P w K mg base N qual scope f cdv A outer s H E) (fun cls d _ H' => E cls d H') body t)
    (hr : ∀ args Q E x, sp args Q E → t { nx := endI x C Q, rt := fun _ => False, bk := fun _ => False, ct := fun _ => False, xc := fun cls fs _ => E cls fs } (startD N (.own (.ins x C []) :: args))) : FnR P w K mg base (k + 1) f fd ps (upIn K C sp) := by
  refine fnR_of F S (fun vs H Q E h => ?_) (fun cdv A outer s H vs Q E hroom hg h => ?_)
  · obtain ⟨x, vs', G, so, args, QD, ED, rfl, _, _, _, _, w1, q, _⟩ := h
    rw [List.length_cons, w1.length]; exact len _ _ _ q
  · obtain ⟨x, vs', G, so, args, QD, ED, rfl, hrep, ow, gx, sx, w1, q, hq, hx⟩ := h
    have only : ∀ a, Own (startD N (.own (.ins x C []) :: args)) (L2.start N (.ref x :: vs')) a → a = x := fun a ⟨i, o, e1, e2⟩ => by
      rcases start_get0 e1 with ⟨rfl, _⟩ | ⟨j, rfl, z⟩
      · have : (L2.start N (.ref x :: vs'))[0]? = some (some (.ref x)) := start_at rfl
        rw [this] at e2; cases e2; rfl
      · obtain ⟨_, _, _, n⟩ := w1.get z
        exact absurd rfl (n o)
    have rep : Rep K G so (L2.start N (.ref x :: vs')) H (startD N (.own (.ins x C []) :: args)) := by
      refine ⟨hrep, by unfold startD L2.start; simp [w1.length], fun i d e => ?_, fun i j o o' a e1 e2 _ _ => ?_, fun i o a e1 _ => ?_, fun i o e1 => ?_⟩
      · rcases start_get0 e with ⟨rfl, rfl⟩ | ⟨j, rfl, z⟩
        · exact ⟨.ref x, start_at rfl, x, rfl, gx, sx, ow⟩
        · obtain ⟨v, e1, e2, _⟩ := w1.get z
          exact ⟨v, start_at (by simpa using e1), e2⟩
      · rcases start_get0 e1 with ⟨rfl, _⟩ | ⟨j', rfl, z⟩
        · rcases start_get0 e2 with ⟨rfl, _⟩ | ⟨j', rfl, z⟩
          · rfl
          · obtain ⟨_, _, _, n⟩ := w1.get z
            exact absurd rfl (n o')
        · obtain ⟨_, _, _, n⟩ := w1.get z
          exact absurd rfl (n o)
      · rcases start_get0 e1 with ⟨_, z⟩ | ⟨j', rfl, z⟩
        · cases z
        · exact absurd z (nsee _ _ _ q j' o).2
      · rcases start_get0 e1 with ⟨_, z⟩ | ⟨j', rfl, z⟩
        · cases z
        · exact absurd z (nsee _ _ _ q j' o).1
    refine ⟨_, hd cdv A outer s H E hroom hg, G, so, _, _, rep, hr args QD ED x q, ⟨fun σ' H' G' sl' p z => ?_, fun _ _ _ _ _ z => z.elim, fun _ _ _ _ _ z => z.elim, fun _ _ _ _ _ z => z.elim, fun cls d σ' H' G' fs sl' p z1 z2 => ?_⟩⟩
    · obtain ⟨fs, e, z⟩ := z
      obtain ⟨v, _, a, rfl, ga, _, ok⟩ := p.rep.slots 0 _ e
      have ax : a = x := ok.1
      subst ax
      exact hq H' G' fs ⟨⟨p.ex, p.rep.h, fun b o e s n => p.keep b o e s fun z => n (only b z), fun b n1 g s n => p.frm b n1 g s fun z => n (only b z)⟩, ok, ga⟩ z
    · exact hx cls d H' G' fs ⟨p.ex, p.rep.h, fun b o e s n => p.keep b o e s fun z => n (only b z), fun b n1 g s n => p.frm b n1 g s fun z => n (only b z)⟩ z1 z2
def noZero : List Sel → Bool
  | [] => true
  | .pos 0 :: _ => false
  | _ :: r => noZero r
theorem pick_cong {v v' : V} {vs qs : List V} : ∀ {sel : List Sel}, noZero sel = true → sel.map (pickV (v :: vs) qs) = sel.map (pickV (v' :: vs) qs)
  | [], _ => rfl
  | .pos 0 :: _, h => by cases h
  | .pos (i + 1) :: r, h => by rw [List.map_cons, List.map_cons, pick_cong (sel := r) h]; rfl
  | .kw j :: r, h => by rw [List.map_cons, List.map_cons, pick_cong (sel := r) h]; rfl
  | .dfl a b :: r, h => by rw [List.map_cons, List.map_cons, pick_cong (sel := r) h]; rfl
def dMake (sp : SpI) (C : Addr) (n m : Nat) (sel : List Sel) (ta tk : TDA) : TD := fun sl Q E => ta sl (fun xs s1 => tk s1 (fun ys s2 => xs.length = n ∧ ys.length = m ∧ sp (sel.map (pickD (.d .non :: xs) ys)) (fun fs => Q (.d (.ins C fs)) s2) fun cls fs => E cls fs s2) E) E
section
variable {X : Cx} {W : WX} {k n : Nat} {f C : Addr} {fd : FuncData} {ps ks : List Str} {sp : SpI} {sel : List Sel} {x nm : Str} {p pos kpos : Pos} {e : Expr} {es : List Expr} {kws : List Keyword} {ta tk tk' : TDA} {te : TD}
theorem run_makeG {pins : List (Addr × Obj)} {σ : L2.St} {H G : Hp} {so : So} {sl : DSt} {s : Shared} {Q : VK} {us ws : List Value} {vs qs : List V} {ds es : List DV} {Q' : DV → DSt → Prop} {E : XP} (M : Mk X.K C f) (F : FnR X.prog X.w X.K X.mg X.base k f fd ps (upIn X.K C sp)) (hr : Room (k + 1) X.A) (hg : X.A.guards = some []) (tk : L2N.Takes X W) (hb : Bd X.K fd ps (n + 1) ks (.pos 0 :: sel)) (hz : noZero sel = true)
    (I : Inv X pins σ H s) (rep : Rep X.K G so σ H sl) (r : Vals vs us) (r2 : Vals qs ws) (w : VsOk X.K G so H vs ds) (w2 : VsOk X.K G so H qs es) (l1 : ds.length = n) (l2 : es.length = ks.length)
    (q : sp (sel.map (pickD (.d .non :: ds) es)) (fun fs => Q' (.d (.ins C fs)) sl) fun cls fs => E cls fs sl) (hq : ∀ v H' G' dv sl', PostE X.K G so σ H sl v H' G' dv sl' → Q' dv sl' → Q v H') (hx : XOk X.K W G so σ H sl E) :
    wpAny (model X.prog X.w) X.A (call (.ref C) us (ks.zip ws)) (EP X pins σ Q) X.xe s := by
  have I2 := Inv.made (C := C) I
  generalize hxx : s.heap.objs.size + 1 = x at I2
  have nx : H x = none := by rw [← hxx]; exact I.hok.fresh (Nat.le_succ _)
  have nd : H s.heap.objs.size = none := I.hok.fresh (Nat.le_refl _)
  have ne : s.heap.objs.size ≠ x := by rw [← hxx]; exact Nat.ne_of_lt (Nat.lt_succ_self _)
  generalize hdd : s.heap.objs.size = dx at I2 nd ne
  have nx2 : upd H dx (.own x) x = none := by rw [upd_ne (Ne.symm ne)]; exact nx
  have h0 : HRep X.K (upd G dx (.own x)) so (upd (upd H dx (.own x)) x (.ins C dx [])) := (rep.h.allocG nd).alloc nx2
  have gx : upd G dx (.own x) x = none := by rw [upd_ne (Ne.symm ne)]; exact rep.h.ex.free nx
  have kp : ∀ a o, H a = some o → upd (upd H dx (.own x)) x (.ins C dx []) a = some o := fun a o e => by
    rw [upd_ne (ne_of_none e nx), upd_ne (ne_of_none e nd)]; exact e
  have eg : Ex G (upd G dx (.own x)) := Ex.new (rep.h.ex.free nd)
  have w' : VsOk X.K (upd G dx (.own x)) so (upd (upd H dx (.own x)) x (.ins C dx [])) vs ds := w.keep eg fun a o e _ => kp a o e
  have w2' : VsOk X.K (upd G dx (.own x)) so (upd (upd H dx (.own x)) x (.ins C dx [])) qs es := w2.keep eg fun a o e _ => kp a o e
  obtain ⟨zs, bt, rz⟩ := hb.to _ (.ref x :: us) ws (.ref x :: vs) qs I2.kIn (by rw [List.length_cons, ← r.length, w.length, l1]) (by rw [← r2.length, w2.length, l2]) (.cons rfl r) r2
  have pk : VsOk X.K (upd G dx (.own x)) so (upd (upd H dx (.own x)) x (.ins C dx [])) (sel.map (pickV (.ref x :: vs) qs)) (sel.map (pickD (.d .non :: ds) es)) := by
    rw [pick_cong (v' := .non) hz]
    exact VsOk.pick (.cons (d := .d .non) (show DOk _ _ _ _ from .non) (fun _ e => (nomatch e)) w') w2' sel fun s hs => hb.dok s (List.mem_cons_of_mem _ hs)
  subst hdd
  subst hxx
  refine wpAny_call (make_map (f := f) I.kIn M.makes M.init (beq_iff_eq.mp M.fn) (codeAny_mono (F.run _ X.stack _ _ ⟨Value.ref (s.heap.objs.size + 1) :: us, ks.zip ws⟩ zs _ (fun v H2 => v = .non ∧ Q (.ref (s.heap.objs.size + 1)) H2) (fun cls d H' => W cls d σ H') (hr.make C us (ks.zip ws)) hg
    (I2.env0.make C us (ks.zip ws)) bt rz ⟨s.heap.objs.size + 1, _, _, so, _, _, _, rfl, h0, ⟨rfl, _, [], upd_same, upd_same, .nil⟩, gx, rep.h.there nx, pk, q, fun H' G' fs p z => ⟨rfl, ?_⟩, fun cls d H' G' fs p z1 z2 => ?_⟩) fun r s' hz' => ?_))
  · obtain ⟨_, dx', vs2, e1, e2, e3⟩ := p.own
    have gn : G' (s.heap.objs.size + 1) = none := p.gx
    have pv : PostV X.K G so H (.ref (s.heap.objs.size + 1)) H' (upd G' (s.heap.objs.size + 1) (.ins C dx' vs2)) (.d (.ins C fs)) :=
      ⟨eg.trans (p.ex.trans (Ex.new gn)), hrep_pub p.hrep e1 gn (rep.h.there nx), fun a o e sa => p.keep a o (kp a o e) sa (ne_of_none e nx), fun a n1 g sa => by
        have n2 : a ≠ s.heap.objs.size + 1 := fun z => by rw [z] at n1; exact n1 nx
        have n3 : a ≠ s.heap.objs.size := fun z => by rw [z] at n1; exact n1 nd
        rw [upd_ne n2]
        exact p.frm a (by rw [upd_ne n2, upd_ne n3]; exact n1) (by rw [upd_ne n3]; exact g) sa n2,
        .ins upd_same (Ex.new gn _ _ e2) (e3.mono (Ex.new gn)), fun _ _ e => (nomatch e), fun _ e => (nomatch e)⟩
    exact hq _ H' _ _ sl (pv.slots rep) z
  · have pn : PostV X.K G so H .non H' G' (.d .non) := ⟨eg.trans p.ex, p.hrep, fun a o e sa => p.keep a o (kp a o e) sa (ne_of_none e nx), fun a n1 g sa => by
        have n2 : a ≠ s.heap.objs.size + 1 := fun z => by rw [z] at n1; exact n1 nx
        have n3 : a ≠ s.heap.objs.size := fun z => by rw [z] at n1; exact n1 nd
        exact p.frm a (by rw [upd_ne n2, upd_ne n3]; exact n1) (by rw [upd_ne n3]; exact g) sa n2, .non, fun _ _ e => (nomatch e), fun _ e => (nomatch e)⟩
    exact hx cls d H' G' fs sl (pn.slots rep).toPost z1 z2
  · cases r with
    | error e => exact tk e s' (L2N.XE.of_call I2 (fun _ _ _ z => z) hz')
    | ok fl =>
      cases fl with
      | ret u =>
        obtain ⟨v, H', I3, rv, ev, q3⟩ := I2.after hz'
        subst ev
        exact ⟨rv, ⟨V.ref (s.heap.objs.size + 1), H', I3, rfl, q3⟩⟩
      | next => exact False.elim hz'
      | brk => exact False.elim hz'
      | cont => exact False.elim hz'
theorem de_make (M : Mk X.K C f) (F : FnR X.prog X.w X.K X.mg X.base k f fd ps (upIn X.K C sp)) (hr : Room (k + 1) X.A) (hgd : X.A.guards = some []) (tk : L2N.Takes X W) (hb : Bd X.K fd ps (n + 1) [] (.pos 0 :: sel)) (hz : noZero sel = true) (hg : Gl X x) (hm : X.mg x = some (.ref C))
    (ha : DA X W (e :: es) ta) (hdb : (x == ("__debug__" : Str)) = false := by decide) (he : starEach (e :: es) X.env = (false, eval e X.env) :: starEach es X.env := by rfl) (hpl : (backTo pos (starEach es X.env)).any (·.1) = false := by rfl) :
    DE X W (.Call (.Name x p) (e :: es) [] pos) (dMake sp C n 0 sel ta dNil) := by
  refine ⟨fun pins s σ H Q I ⟨G, so, sl, Q', E, rep, q, hq, hx⟩ => wpAny_Call_Name_kw (ld_glob I hg hm ?_ hdb)⟩
  refine PySem.W.callWith_K (h₀ := X.base) I.ok.mod.kin M.kp (thn (ha.run pos pins s σ H (fun vs H1 => ∃ G1 ds s1, Post X.K G so σ H sl H1 G1 s1 ∧ VsOk X.K G1 so H1 vs ds ∧ ds.length = n ∧ sp (sel.map (pickD (.d .non :: ds) [])) (fun fs => Q' (.d (.ins C fs)) s1) fun cls fs => E cls fs s1) I
    ⟨G, so, sl, _, E, rep, q, fun vs H1 G1 ds s1 p1 w z => ⟨G1, ds, s1, p1, w, z.1, z.2.2⟩, hx⟩) fun us s1 ⟨vs, H1, I1, r, G1, ds, sl1, p1, w, l1, z⟩ => ⟨I1.kIn, ?_⟩) he hpl
  exact run_makeG (ws := []) (qs := []) (es := []) M F hr hgd tk hb hz I1 p1.rep r .nil w .nil l1 rfl z (fun v H' G' dv sl' pe z' => hq v H' G' dv sl' (p1.thenE pe) z') (hx.step p1)
theorem de_makeK (M : Mk X.K C f) (F : FnR X.prog X.w X.K X.mg X.base k f fd ps (upIn X.K C sp)) (hr : Room (k + 1) X.A) (hgd : X.A.guards = some []) (tk : L2N.Takes X W) (hb : Bd X.K fd ps (n + 1) ks (.pos 0 :: sel)) (hz : noZero sel = true) (hg : Gl X x) (hm : X.mg x = some (.ref C))
    (ha : DA X W (e :: es) ta) (hkw : DK X W kws tk') (hall : (backToKw pos (keywordEach kws X.env)).all (·.1.isSome) = true := by rfl) (hks : (backToKw pos (keywordEach kws X.env)).filterMap (·.1) = ks := by rfl) (hdb : (x == ("__debug__" : Str)) = false := by decide)
    (he : starEach (e :: es) X.env = (false, eval e X.env) :: starEach es X.env := by rfl) (hpl : ((backTo pos (starEach (e :: es) X.env)).any (·.1) || (backToKw pos (keywordEach kws X.env)).any (·.1.isNone)) = false := by rfl) :
    DE X W (.Call (.Name x p) (e :: es) kws pos) (dMake sp C n ks.length sel ta tk') := by
  refine ⟨fun pins s σ H Q I ⟨G, so, sl, Q', E, rep, q, hq, hx⟩ => wpAny_Call_Name_kw (ld_glob I hg hm ?_ hdb)⟩
  refine PySem.W.callWith_KW (h₀ := X.base) I.ok.mod.kin M.kp hall (thn (ha.run pos pins s σ H (fun vs H1 => ∃ G1 ds s1, Post X.K G so σ H sl H1 G1 s1 ∧ VsOk X.K G1 so H1 vs ds ∧ tk' s1 (fun ys s2 => ds.length = n ∧ ys.length = ks.length ∧ sp (sel.map (pickD (.d .non :: ds) ys)) (fun fs => Q' (.d (.ins C fs)) s2) fun cls fs => E cls fs s2) E) I
    ⟨G, so, sl, _, E, rep, q, fun vs H1 G1 ds s1 p1 w z => ⟨G1, ds, s1, p1, w, z⟩, hx⟩) fun us s1 ⟨vs, H1, I1, r, G1, ds, sl1, p1, w, z⟩ => ?_) hpl he
  refine thn (hkw.run pos pins s1 σ H1 (fun qs H2 => ∃ G2 es s2, Post X.K G1 so σ H1 sl1 H2 G2 s2 ∧ VsOk X.K G2 so H2 qs es ∧ ds.length = n ∧ es.length = ks.length ∧ sp (sel.map (pickD (.d .non :: ds) es)) (fun fs => Q' (.d (.ins C fs)) s2) fun cls fs => E cls fs s2) I1
    ⟨G1, so, sl1, _, E, p1.rep, z, fun qs H2 G2 es s2 p2 w2 z => ⟨G2, es, s2, p2, w2, z⟩, hx.step p1⟩) fun ws s2 ⟨qs, H2, I2, r2, G2, es, sl2, p2, w2, l1, l2, z⟩ => ⟨I2.kIn, ?_⟩
  rw [hks]
  exact run_makeG M F hr hgd tk hb hz I2 p2.rep r r2 (w.keep p2.ex p2.keep) w2 l1 l2 z (fun v H' G' dv sl' pe z' => hq v H' G' dv sl' ((p1.trans p2).thenE pe) z') (hx.step (p1.trans p2))
theorem de_makeK0 (M : Mk X.K C f) (F : FnR X.prog X.w X.K X.mg X.base k f fd ps (upIn X.K C sp)) (hr : Room (k + 1) X.A) (hgd : X.A.guards = some []) (tk : L2N.Takes X W) (hb : Bd X.K fd ps (0 + 1) ks (.pos 0 :: sel)) (hz : noZero sel = true) (hg : Gl X x) (hm : X.mg x = some (.ref C))
    (hkw : DK X W kws tk') (hall : (backToKw pos (keywordEach kws X.env)).all (·.1.isSome) = true := by rfl) (hks : (backToKw pos (keywordEach kws X.env)).filterMap (·.1) = ks := by rfl) (hdb : (x == ("__debug__" : Str)) = false := by decide)
    (hpl : ((backTo pos (starEach [] X.env)).any (·.1) || (backToKw pos (keywordEach kws X.env)).any (·.1.isNone)) = false := by rfl) :
    DE X W (.Call (.Name x p) [] kws pos) (dMake sp C 0 ks.length sel dNil tk') := by
  refine ⟨fun pins s σ H Q I ⟨G, so, sl, Q', E, rep, q, hq, hx⟩ => wpAny_Call_Name_kw (ld_glob I hg hm ?_ hdb)⟩
  refine PySem.W.callWith_KW0 (h₀ := X.base) I.ok.mod.kin M.kp hall ?_ hpl
  refine thn (hkw.run pos pins s σ H (fun qs H2 => ∃ G2 es s2, Post X.K G so σ H sl H2 G2 s2 ∧ VsOk X.K G2 so H2 qs es ∧ es.length = ks.length ∧ sp (sel.map (pickD [.d .non] es)) (fun fs => Q' (.d (.ins C fs)) s2) fun cls fs => E cls fs s2) I
    ⟨G, so, sl, _, E, rep, q, fun qs H2 G2 es s2 p2 w2 z => ⟨G2, es, s2, p2, w2, z.2.1, z.2.2⟩, hx⟩) fun ws s2 ⟨qs, H2, I2, r2, G2, es, sl2, p2, w2, l2, z⟩ => ⟨I2.kIn, ?_⟩
  rw [hks]
  exact run_makeG (us := []) (vs := []) (ds := []) M F hr hgd tk hb hz I2 p2.rep .nil r2 .nil w2 rfl l2 z (fun v H' G' dv sl' pe z' => hq v H' G' dv sl' (p2.thenE pe) z') (hx.step p2)
theorem de_make0 (M : Mk X.K C f) (F : FnR X.prog X.w X.K X.mg X.base k f fd ps (upIn X.K C sp)) (hr : Room (k + 1) X.A) (hgd : X.A.guards = some []) (tk : L2N.Takes X W) (hb : Bd X.K fd ps (0 + 1) [] (.pos 0 :: sel)) (hz : noZero sel = true) (hg : Gl X x) (hm : X.mg x = some (.ref C))
    (hdb : (x == ("__debug__" : Str)) = false := by decide) : DE X W (.Call (.Name x p) [] [] pos) (dMake sp C 0 0 sel dNil dNil) := by
  refine ⟨fun pins s σ H Q I ⟨G, so, sl, Q', E, rep, q, hq, hx⟩ => wpAny_Call_Name_kw (ld_glob I hg hm ?_ hdb)⟩
  exact PySem.W.callWith_K0 I.kIn M.kp (run_makeG (us := []) (vs := []) (ds := []) (ws := []) (qs := []) (es := []) M F hr hgd tk hb hz I rep .nil .nil .nil .nil rfl rfl q.2.2 hq hx)
end

/-! ### methods -/
def dMeth (sp : SpD) (C : Addr) (m : Str) (n l : Nat) (sel : List Sel) (to : TD) (ta tk : TDA) : TD := fun sl Q E => to sl (fun x s0 => match pubV x with
  | .d (.ins D fs) => D = C ∧ fs.lookup m = none ∧ ta s0 (fun xs s1 => tk s1 (fun ys s2 => xs.length = n ∧ ys.length = l ∧ sp (sel.map (pickD (.d (.ins D fs) :: xs) ys)) (fun v => Q v s2) fun cls fs => E cls fs s2) E) E
  | _ => False) E
section
variable {X : Cx} {W : WX} {k n : Nat} {f C : Addr} {fd : FuncData} {ps ks : List Str} {sp : SpD} {sel : List Sel} {m nm : Str} {p pos apos kpos : Pos} {o e : Expr} {es : List Expr} {kws : List Keyword} {ta tk tk' : TDA} {to te : TD} {pl : Sem Bool}
theorem de_meth (he : DE X W o to) (c : Cls X.K C) (hm : Meth X.K C m f) (F : FnG X.prog X.w X.K X.mg X.base k f fd ps sp) (hr : Room k X.A) (hgd : X.A.guards = some []) (tk : L2N.Takes X W) (hb : Bd X.K fd ps (n + 1) [] sel) (ha : DA X W (e :: es) ta)
    (hst : starEach (e :: es) X.env = (false, eval e X.env) :: starEach es X.env := by rfl) (hpl : (backTo pos (starEach es X.env)).any (·.1) = false := by rfl)
    (ht : eval (.Call (.Attribute o m apos) (e :: es) [] pos) X.env = (do
      let ov ← eval o X.env
      standAt apos.atName
      let (f, first) ← holding [ov] (getMethod ov m pl)
      callWith pos f first (backTo pos (starEach (e :: es) X.env)) (backToKw pos (keywordEach [] X.env))) := by rfl) :
    DE X W (.Call (.Attribute o m apos) (e :: es) [] pos) (dMeth sp C m n 0 sel to ta dNil) := by
  refine ⟨fun pins s σ H Q I ⟨G, so, sl, Q', E, rep, q, hq, hx⟩ => ?_⟩
  refine PySem.W.methodCall_KW (pl := pl) (thn (he.run pins s σ H (fun v H1 => ∃ G1 s1 fs, PostE X.K G so σ H sl v H1 G1 (.d (.ins C fs)) s1 ∧ fs.lookup m = none ∧ ta s1 (fun xs s2 => dNil s2 (fun ys s3 => xs.length = n ∧ ys.length = 0 ∧ sp (sel.map (pickD (.d (.ins C fs) :: xs) ys)) (fun v => Q' v s3) fun cls fs => E cls fs s3) E) E) I
    ⟨G, so, sl, _, E, rep, q, fun v H1 G1 dv s1 p1 z => ?_, hx⟩) fun u s1 ⟨x, H1, I1, rx, G1, sl1, fs, p1, l, z⟩ => ?_) ht
  · obtain ⟨G2, p2⟩ := p1.pub
    split at z
    · rename_i D fs ed
      obtain ⟨rfl, l, z⟩ := z
      exact ⟨G2, s1, fs, by rw [← ed]; exact p2, l, z⟩
    · exact z.elim
  · obtain ⟨a, dx, vs, ex, ea, fa⟩ := VOk.inst p1.rep.h p1.val rfl
    subst ex
    obtain rfl : u = Value.ref a := rx
    refine getmeth_ok I1 ea c hm (fa.lookN l) ?_
    refine PySem.W.callWith_K (first := [.ref a]) (h₀ := X.base) I.ok.mod.kin hm.kp (thn (ha.run pos pins s1 σ H1 (fun vs H2 => ∃ G2 ds s2, Post X.K G1 so σ H1 sl1 H2 G2 s2 ∧ VsOk X.K G2 so H2 vs ds ∧ ds.length = n ∧ sp (sel.map (pickD (.d (.ins C fs) :: ds) [])) (fun v => Q' v s2) fun cls fs => E cls fs s2) I1
      ⟨G1, so, sl1, _, E, p1.rep, z, fun vs H2 G2 ds s2 p2 w z => ⟨G2, ds, s2, p2, w, z.1, z.2.2⟩, hx.step p1.toPost⟩) fun us s2 ⟨vs2, H2, I2, r, G2, ds, sl2, p2, w, l1, z⟩ => ⟨I2.kIn, ?_⟩) hst hpl
    exact run_fnG (us := .ref a :: us) (vs := .ref a :: vs2) (ds := .d (.ins C fs) :: ds) (ws := []) (qs := []) (es := []) F hr hgd tk hb I2 p2.rep (.cons rfl r) .nil (.cons (p1.over p2) (fun _ e => (nomatch e)) w) .nil (by rw [List.length_cons, l1]) rfl z (fun v H' G' dv sl' pe z' => hq v H' G' dv sl' ((p1.toPost.trans p2).thenE pe) z') (hx.step (p1.toPost.trans p2))
theorem de_meth0 (he : DE X W o to) (c : Cls X.K C) (hm : Meth X.K C m f) (F : FnG X.prog X.w X.K X.mg X.base k f fd ps sp) (hr : Room k X.A) (hgd : X.A.guards = some []) (tk : L2N.Takes X W) (hb : Bd X.K fd ps (0 + 1) [] sel)
    (ht : eval (.Call (.Attribute o m apos) [] [] pos) X.env = (do
      let ov ← eval o X.env
      standAt apos.atName
      let (f, first) ← holding [ov] (getMethod ov m pl)
      callWith pos f first (backTo pos (starEach [] X.env)) (backToKw pos (keywordEach [] X.env))) := by rfl) :
    DE X W (.Call (.Attribute o m apos) [] [] pos) (dMeth sp C m 0 0 sel to dNil dNil) := by
  refine ⟨fun pins s σ H Q I ⟨G, so, sl, Q', E, rep, q, hq, hx⟩ => ?_⟩
  refine PySem.W.methodCall_KW (pl := pl) (thn (he.run pins s σ H (fun v H1 => ∃ G1 s1 fs, PostE X.K G so σ H sl v H1 G1 (.d (.ins C fs)) s1 ∧ fs.lookup m = none ∧ sp (sel.map (pickD [.d (.ins C fs)] [])) (fun v => Q' v s1) fun cls fs => E cls fs s1) I
    ⟨G, so, sl, _, E, rep, q, fun v H1 G1 dv s1 p1 z => ?_, hx⟩) fun u s1 ⟨x, H1, I1, rx, G1, sl1, fs, p1, l, z⟩ => ?_) ht
  · obtain ⟨G2, p2⟩ := p1.pub
    split at z
    · rename_i D fs ed
      obtain ⟨rfl, l, z⟩ := z
      exact ⟨G2, s1, fs, by rw [← ed]; exact p2, l, z.2.2⟩
    · exact z.elim
  · obtain ⟨a, dx, vs, ex, ea, fa⟩ := VOk.inst p1.rep.h p1.val rfl
    subst ex
    obtain rfl : u = Value.ref a := rx
    refine getmeth_ok I1 ea c hm (fa.lookN l) ?_
    exact PySem.W.callWith_K0 (first := [.ref a]) I1.kIn hm.kp (run_fnG (us := [.ref a]) (vs := [.ref a]) (ds := [.d (.ins C fs)]) (ws := []) (qs := []) (es := []) F hr hgd tk hb I1 p1.rep (.cons rfl .nil) .nil (.cons p1.val (fun _ e => (nomatch e)) .nil) .nil rfl rfl z (fun v H' G' dv sl' pe z' => hq v H' G' dv sl' (p1.toPost.thenE pe) z') (hx.step p1.toPost))
theorem de_methK (he : DE X W o to) (c : Cls X.K C) (hm : Meth X.K C m f) (F : FnG X.prog X.w X.K X.mg X.base k f fd ps sp) (hr : Room k X.A) (hgd : X.A.guards = some []) (tk : L2N.Takes X W) (hb : Bd X.K fd ps (n + 1) ks sel) (ha : DA X W (e :: es) ta) (hkw : DK X W kws tk')
    (hall : (backToKw pos (keywordEach kws X.env)).all (·.1.isSome) = true := by rfl) (hks : (backToKw pos (keywordEach kws X.env)).filterMap (·.1) = ks := by rfl)
    (hst : starEach (e :: es) X.env = (false, eval e X.env) :: starEach es X.env := by rfl) (hpl : ((backTo pos (starEach (e :: es) X.env)).any (·.1) || (backToKw pos (keywordEach kws X.env)).any (·.1.isNone)) = false := by rfl)
    (ht : eval (.Call (.Attribute o m apos) (e :: es) kws pos) X.env = (do
      let ov ← eval o X.env
      standAt apos.atName
      let (f, first) ← holding [ov] (getMethod ov m pl)
      callWith pos f first (backTo pos (starEach (e :: es) X.env)) (backToKw pos (keywordEach kws X.env))) := by rfl) :
    DE X W (.Call (.Attribute o m apos) (e :: es) kws pos) (dMeth sp C m n ks.length sel to ta tk') := by
  refine ⟨fun pins s σ H Q I ⟨G, so, sl, Q', E, rep, q, hq, hx⟩ => ?_⟩
  refine PySem.W.methodCall_KW (pl := pl) (thn (he.run pins s σ H (fun v H1 => ∃ G1 s1 fs, PostE X.K G so σ H sl v H1 G1 (.d (.ins C fs)) s1 ∧ fs.lookup m = none ∧ ta s1 (fun xs s2 => tk' s2 (fun ys s3 => xs.length = n ∧ ys.length = ks.length ∧ sp (sel.map (pickD (.d (.ins C fs) :: xs) ys)) (fun v => Q' v s3) fun cls fs => E cls fs s3) E) E) I
    ⟨G, so, sl, _, E, rep, q, fun v H1 G1 dv s1 p1 z => ?_, hx⟩) fun u s1 ⟨x, H1, I1, rx, G1, sl1, fs, p1, l, z⟩ => ?_) ht
  · obtain ⟨G2, p2⟩ := p1.pub
    split at z
    · rename_i D fs ed
      obtain ⟨rfl, l, z⟩ := z
      exact ⟨G2, s1, fs, by rw [← ed]; exact p2, l, z⟩
    · exact z.elim
  · obtain ⟨a, dx, vs, ex, ea, fa⟩ := VOk.inst p1.rep.h p1.val rfl
    subst ex
    obtain rfl : u = Value.ref a := rx
    refine getmeth_ok I1 ea c hm (fa.lookN l) ?_
    refine PySem.W.callWith_KW (first := [.ref a]) (h₀ := X.base) I.ok.mod.kin hm.kp hall (thn (ha.run pos pins s1 σ H1 (fun vs H2 => ∃ G2 ds s2, Post X.K G1 so σ H1 sl1 H2 G2 s2 ∧ VsOk X.K G2 so H2 vs ds ∧ tk' s2 (fun ys s3 => ds.length = n ∧ ys.length = ks.length ∧ sp (sel.map (pickD (.d (.ins C fs) :: ds) ys)) (fun v => Q' v s3) fun cls fs => E cls fs s3) E) I1
      ⟨G1, so, sl1, _, E, p1.rep, z, fun vs H2 G2 ds s2 p2 w z => ⟨G2, ds, s2, p2, w, z⟩, hx.step p1.toPost⟩) fun us s2 ⟨vs2, H2, I2, r, G2, ds, sl2, p2, w, z⟩ => ?_) hpl hst
    refine thn (hkw.run pos pins s2 σ H2 (fun qs H3 => ∃ G3 es s3, Post X.K G2 so σ H2 sl2 H3 G3 s3 ∧ VsOk X.K G3 so H3 qs es ∧ ds.length = n ∧ es.length = ks.length ∧ sp (sel.map (pickD (.d (.ins C fs) :: ds) es)) (fun v => Q' v s3) fun cls fs => E cls fs s3) I2
      ⟨G2, so, sl2, _, E, p2.rep, z, fun qs H3 G3 es s3 p3 w3 z => ⟨G3, es, s3, p3, w3, z⟩, (hx.step p1.toPost).step p2⟩) fun ws s3 ⟨qs, H3, I3, r2, G3, es, sl3, p3, w3, l1, l2, z⟩ => ⟨I3.kIn, ?_⟩
    rw [hks]
    have p123 := (p1.toPost.trans p2).trans p3
    exact run_fnG (us := .ref a :: us) (vs := .ref a :: vs2) (ds := .d (.ins C fs) :: ds) F hr hgd tk hb I3 p3.rep (.cons rfl r) r2 (.cons (p1.over (p2.trans p3)) (fun _ e => (nomatch e)) (w.keep p3.ex p3.keep)) w3 (by rw [List.length_cons, l1]) l2 z (fun v H' G' dv sl' pe z' => hq v H' G' dv sl' (p123.thenE pe) z') (hx.step p123)
theorem de_methK0 (he : DE X W o to) (c : Cls X.K C) (hm : Meth X.K C m f) (F : FnG X.prog X.w X.K X.mg X.base k f fd ps sp) (hr : Room k X.A) (hgd : X.A.guards = some []) (tk : L2N.Takes X W) (hb : Bd X.K fd ps (0 + 1) ks sel) (hkw : DK X W kws tk')
    (hall : (backToKw pos (keywordEach kws X.env)).all (·.1.isSome) = true := by rfl) (hks : (backToKw pos (keywordEach kws X.env)).filterMap (·.1) = ks := by rfl)
    (hpl : ((backTo pos (starEach [] X.env)).any (·.1) || (backToKw pos (keywordEach kws X.env)).any (·.1.isNone)) = false := by rfl)
    (ht : eval (.Call (.Attribute o m apos) [] kws pos) X.env = (do
      let ov ← eval o X.env
      standAt apos.atName
      let (f, first) ← holding [ov] (getMethod ov m pl)
      callWith pos f first (backTo pos (starEach [] X.env)) (backToKw pos (keywordEach kws X.env))) := by rfl) :
    DE X W (.Call (.Attribute o m apos) [] kws pos) (dMeth sp C m 0 ks.length sel to dNil tk') := by
  refine ⟨fun pins s σ H Q I ⟨G, so, sl, Q', E, rep, q, hq, hx⟩ => ?_⟩
  refine PySem.W.methodCall_KW (pl := pl) (thn (he.run pins s σ H (fun v H1 => ∃ G1 s1 fs, PostE X.K G so σ H sl v H1 G1 (.d (.ins C fs)) s1 ∧ fs.lookup m = none ∧ tk' s1 (fun ys s3 => ([] : List DV).length = 0 ∧ ys.length = ks.length ∧ sp (sel.map (pickD [.d (.ins C fs)] ys)) (fun v => Q' v s3) fun cls fs => E cls fs s3) E) I
    ⟨G, so, sl, _, E, rep, q, fun v H1 G1 dv s1 p1 z => ?_, hx⟩) fun u s1 ⟨x, H1, I1, rx, G1, sl1, fs, p1, l, z⟩ => ?_) ht
  · obtain ⟨G2, p2⟩ := p1.pub
    split at z
    · rename_i D fs ed
      obtain ⟨rfl, l, z⟩ := z
      exact ⟨G2, s1, fs, by rw [← ed]; exact p2, l, z⟩
    · exact z.elim
  · obtain ⟨a, dx, vs, ex, ea, fa⟩ := VOk.inst p1.rep.h p1.val rfl
    subst ex
    obtain rfl : u = Value.ref a := rx
    refine getmeth_ok I1 ea c hm (fa.lookN l) ?_
    refine PySem.W.callWith_KW0 (first := [.ref a]) (h₀ := X.base) I.ok.mod.kin hm.kp hall ?_ hpl
    refine thn (hkw.run pos pins s1 σ H1 (fun qs H3 => ∃ G3 es s3, Post X.K G1 so σ H1 sl1 H3 G3 s3 ∧ VsOk X.K G3 so H3 qs es ∧ es.length = ks.length ∧ sp (sel.map (pickD [.d (.ins C fs)] es)) (fun v => Q' v s3) fun cls fs => E cls fs s3) I1
      ⟨G1, so, sl1, _, E, p1.rep, z, fun qs H3 G3 es s3 p3 w3 z => ⟨G3, es, s3, p3, w3, z.2.1, z.2.2⟩, hx.step p1.toPost⟩) fun ws s3 ⟨qs, H3, I3, r2, G3, es, sl3, p3, w3, l2, z⟩ => ⟨I3.kIn, ?_⟩
    rw [hks]
    exact run_fnG (us := [.ref a]) (vs := [.ref a]) (ds := [.d (.ins C fs)]) F hr hgd tk hb I3 p3.rep (.cons rfl .nil) r2 (.cons (p1.over p3) (fun _ e => (nomatch e)) .nil) w3 rfl l2 z (fun v H' G' dv sl' pe z' => hq v H' G' dv sl' ((p1.toPost.trans p3).thenE pe) z') (hx.step (p1.toPost.trans p3))
end
end DL

set_option Elab.async false
set_option linter.all false
set_option maxRecDepth 100000
set_option autoImplicit false
set_option maxHeartbeats 2000000
/-! products, two names at once, isinstance of several types, is, keyword-only parameters -/
namespace DL
open PySem PySem.Spec PyProof.Rows L2
/-! ### * -/
section
variable {X : Cx} {K : PySem.W.Frag} {W : WX} {a b : Expr} {ta tb : TD} {pos : Pos}
def rMulU : R2 := fun x y H Q => (rI CMulW fun i j => .int (i * j)) x y H Q ∨ rRep x y H Q
theorem op_mulU : OpR X (binaryOp .Mult) rMulU := fun pins s σ H x y v u Q I rx ry h => h.elim (fun h => op_mulW pins s σ H x y v u Q I rx ry h) fun h => op_rep pins s σ H x y v u Q I rx ry h
theorem DAll.rep {K : PySem.W.Frag} {G : Hp} {vs : List V} {ds : List D} (h : DAll K G vs ds) : ∀ n : Nat, DAll K G (List.replicate n vs).flatten (List.replicate n ds).flatten
  | 0 => .nil
  | n + 1 => by rw [List.replicate_succ, List.replicate_succ, List.flatten_cons, List.flatten_cons]; exact h.append (h.rep n)
theorem sem_mul : OpSem K rMulU mulR := by
  intro G so H x y dx dy Q R h w1 w2 q k
  unfold mulR at q
  split at q
  · cases w1; cases w2
    exact .inl ⟨_, _, rfl, rfl, q.1, k _ H G _ (.dat h (.int _)) q.2⟩
  · rename_i c _
    cases w2
    split at q
    · rename_i ds e
      obtain ⟨l, vs, rfl, h1, h2⟩ := w1.list h e
      obtain ⟨q1, q2, q3, q4⟩ := q
      exact .inr ⟨l, c, vs, rfl, rfl, h1, q1, q2, by rw [h2.length]; exact q3, fun p np => k _ _ G _ (.list h np (h2.rep _)) q4⟩
    · exact q.elim
  · exact q.elim
theorem de_mul (ha : DE X W a ta) (hb : DE X W b tb) : DE X W (.BinOp a .Mult b pos) (dOp mulR ta tb) := de_op op_mulU sem_mul ha hb
end
theorem l_mulI {Q : DV → Prop} {i j : Int} (h : CMulW i j) (q : Q (.d (.int (i * j)))) : mulR (.d (.int i)) (.d (.int j)) Q := by unfold mulR; exact ⟨h, q⟩
theorem l_mulL {Q : DV → Prop} {v : DV} {ds : List D} {k : Int} (hv : v.items = some ds) (h1 : -(2 ^ 63) ≤ k) (h2 : k < 2 ^ 63) (h3 : ds.length * k.toNat ≤ szl) (q : Q (.own (.lst (List.replicate k.toNat ds).flatten))) : mulR v (.d (.int k)) Q := by
  rcases items_cases hv with e | e | e | e <;> subst e <;> (unfold mulR; dsimp only [DV.items]; exact ⟨h1, h2, h3, q⟩)
/-! ### is, with a bool or None at the right -/
@[irreducible] def isBR (neg : Bool) : DV → DV → (DV → Prop) → Prop
  | .d (.bl a), .d (.bl b), Q => Q (.d (.bl (if neg then !decide (a = b) else decide (a = b))))
  | _, _, _ => False
section
variable {X : Cx} {K : PySem.W.Frag}
theorem sem_isB : OpSem K (fun x y H Q => ∃ a b, x = .bl a ∧ y = .bl b ∧ Q (.bl (decide (a = b))) H) (isBR false) := by
  intro G so H x y dx dy Q R h w1 w2 q k
  unfold isBR at q
  split at q
  · cases w1; cases w2
    exact ⟨_, _, rfl, rfl, k _ H G _ (.dat h (.bl _)) q⟩
  · exact q.elim
theorem sem_isnotB : OpSem K (fun x y H Q => ∃ a b, x = .bl a ∧ y = .bl b ∧ Q (.bl (!decide (a = b))) H) (isBR true) := by
  intro G so H x y dx dy Q R h w1 w2 q k
  unfold isBR at q
  split at q
  · cases w1; cases w2
    exact ⟨_, _, rfl, rfl, k _ H G _ (.dat h (.bl _)) q⟩
  · exact q.elim
end
theorem l_isB {Q : DV → Prop} {n a b : Bool} (q : Q (.d (.bl (if n then !decide (a = b) else decide (a = b))))) : isBR n (.d (.bl a)) (.d (.bl b)) Q := by unfold isBR; exact q
/-! ### two names at once -/
def dPar (i j : Nat) (ta : TDA) : TDS := fun E sl => ta sl (fun vs s1 => match vs with
  | [.d x, .d y] => E.nx ((s1.set i (some (.d x))).set j (some (.d y)))
  | _ => False) E.xc
theorem PostE.ofD {K : PySem.W.Frag} {G G1 : Hp} {so : So} {σ : L2.St} {H H1 : Hp} {sl s1 : DSt} {v : V} {x : D} (p : Post K G so σ H sl H1 G1 s1) (w : DOk K G1 v x) : PostE K G so σ H sl v H1 G1 (.d x) s1 :=
  { p with val := w, new := fun _ _ e => (nomatch e), sepv := fun _ _ e => e.elim (fun e => (nomatch e)) fun e => (nomatch e), nbs := fun _ _ _ _ e => (nomatch e) }
section
variable {X : Cx} {W : WX} {pos : Pos} {i j : Nat} {x y : Str} {a b : Expr} {ta : TDA}
theorem ds_par {px py pt kt k2 pt2} (hc : X.calm = true) (hN : X.N.Nodup) (hi : X.N[i]? = some x) (hj : X.N[j]? = some y) (hij : i ≠ j)
    (hx : X.env.scope.names.lookup x = some .local) (hy : X.env.scope.names.lookup y = some .local) (ha : DA X W [a, b] ta)
    (hw : swappedStores [.Tuple [.Name x px, .Name y py] kt pt] (.Tuple [a, b] k2 pt2) X.env = pure (some [x, y]))
    (hs : swapsWithSole [.Tuple [.Name x px, .Name y py] kt pt] (.Tuple [a, b] k2 pt2) pos.line X.env = pure false := by rfl) :
    DS X W (.Assign [.Tuple [.Name x px, .Name y py] kt pt] (.Tuple [a, b] k2 pt2) pos) (dPar i j ta) := by
  refine ps_len (ps_par hc hN hi hj hij hx hy ha hw hs) fun D σ H hl ⟨G, so, sl, E, rep, q, ok⟩ => ?_
  have li : i < σ.length := by rw [hl]; exact (List.getElem?_eq_some_iff.mp hi).1
  have lj : j < σ.length := by rw [hl]; exact (List.getElem?_eq_some_iff.mp hj).1
  refine ⟨G, so, sl, _, E.xc, rep, q, fun vs H1 G1 ds s1 p w z => ?_, ok.xc.ex⟩
  split at z
  · rename_i d1 d2
    obtain ⟨v1, v2, rfl, w1, w2, _⟩ := w.v2
    have n1 : ∀ o, DV.d d1 ≠ .see o := fun _ e => (nomatch e)
    have n2 : ∀ o, DV.d d2 ≠ .see o := fun _ e => (nomatch e)
    have p1 := (PostE.ofD (x := d1) p w1).set li n1
    have p2 := (PostE.ofD (x := d2) (Post.refl p1.rep) w2).set (i := j) (by rw [List.length_set]; exact lj) n2
    exact ⟨v1, v2, rfl, ok.nx _ H1 G1 _ (p1.trans p2) z⟩
  · exact z.elim
end
theorem par_cut {ta : TDA} {u : TDS} {E : EndsD} {sl s' : DSt} {i j : Nat} (x y : D) (h : ∀ Q : List DV → DSt → Prop, Q [.d x, .d y] s' → ta sl Q E.xc) (q : u E ((s'.set i (some (.d x))).set j (some (.d y)))) : dSeq (dPar i j ta) u E sl := h _ q
theorem par_cutP {ta : TDA} {u : TDS} {E : EndsD} {sl s' : DSt} {i j : Nat} (R : D → D → Prop) (h : ∀ Q : List DV → DSt → Prop, (∀ x y, R x y → Q [.d x, .d y] s') → ta sl Q E.xc) (q : ∀ x y, R x y → u E ((s'.set i (some (.d x))).set j (some (.d y)))) : dSeq (dPar i j ta) u E sl := h _ fun x y r => q x y r
/-! ### isinstance(x, (T, U, ..)) -/
def tysD : List D → Option (List String)
  | [] => some []
  | .raw (.ty T) :: r => (tysD r).map (T :: ·)
  | _ => none
def kitBs (t : String) : List String → Option Bool
  | [] => some false
  | T :: r => match kitB t T with
    | some true => some true
    | some false => kitBs t r
    | none => none
def rIsiS (K : PySem.W.Frag) : List V → Hp → VK → Prop := fun xs H Q => ∃ (x : V) (tp : Addr) (cs : List V) (t : Value) (us : List Value) (b : Bool), xs = [x, .ref tp] ∧ SqT K H tp cs ∧ Paired ClsV cs us ∧ TyX K H x t ∧ PySem.W.kitAny K t us = some b ∧ Q (.bl b) H
theorem call_isiS {X : Cx} : CallR X (.builtin "isinstance") (rIsiS X.K) := by
  intro pins s σ H xs us Q I r h
  obtain ⟨x, tp, cs, t, ws, b, rfl, hT, k, ty, e, q⟩ := h
  obtain ⟨u1, u2, rfl, r1, r2⟩ := vals2 r
  cases (show u2 = Value.ref tp from r2)
  obtain ⟨P, Z, p, hx⟩ := kit_of I r1 ty
  obtain ⟨its, rv, ⟨o, h1, h2, n, h3⟩, _⟩ := I.tuple hT
  have e3 := ClsV.all k rv
  subst e3
  obtain ⟨oc, od, dt, sl⟩ := o
  simp only at h2 h3
  subst h2 h3
  exact PySem.W.kia_tup Z I.kIn p h1 e hx fun tk => ⟨.bl b, H, I.tok tk, rfl, q⟩
@[irreducible] def isiTR : List DV → (DV → Prop) → Prop
  | [v, .d (.tup ts)], Q => match v.dat, tysD ts with
    | some d, some Ts => match tyD d with
      | some t => match kitBs t Ts with
        | some b => Q (.d (.bl b))
        | none => False
      | none => False
    | _, _ => False
  | _, _ => False
theorem tys_ok {K : PySem.W.Frag} {G : Hp} : ∀ {vs : List V} {ts : List D} {Ts : List String}, DAll K G vs ts → tysD ts = some Ts → Paired ClsV vs (Ts.map Value.type)
  | _, _, _, .nil, e => by cases e; exact .nil
  | _, _, _, .cons (d := .raw (.ty T)) h t, e => by
    unfold tysD at e
    rename_i ds
    cases z : tysD ds with
    | none => rw [z] at e; cases e
    | some Us => rw [z] at e; cases e; cases h; exact .cons (.ty _) (tys_ok t z)
theorem kits_ok {K : PySem.W.Frag} {t : String} : ∀ {Ts : List String} {b : Bool}, kitBs t Ts = some b → PySem.W.kitAny K (.type t) (Ts.map Value.type) = some b
  | [], _, e => by cases e; rfl
  | T :: r, b, e => by
    unfold kitBs at e
    rw [List.map_cons]
    unfold PySem.W.kitAny
    split at e
    · rename_i h; cases e; rw [kit_ty h]
    · rename_i h; rw [kit_ty h]; exact kits_ok e
    · cases e
theorem sem_isiT {K : PySem.W.Frag} : CallSem K (rIsiS K) isiTR := by
  intro G so H xs dxs Q R h w q k
  unfold isiTR at q
  split at q
  · obtain ⟨v, v', rfl, w1, w2, _⟩ := w.v2
    split at q
    · rename_i d Ts e1 e2
      split at q
      · rename_i t et
        split at q
        · rename_i b eb
          cases w2 with
          | tup sq al => exact ⟨_, _, _, _, _, b, rfl, ex_t h.ex sq, tys_ok al e2, ty_ok h w1 e1 et, kits_ok eb, k _ H G _ (.dat h (.bl _)) q⟩
        · exact q.elim
      · exact q.elim
    · exact q.elim
  · exact q.elim
theorem l_isiT {Q : DV → Prop} {v : DV} {d : D} {ts : List D} {Ts : List String} {t : String} {b : Bool} (h1 : v.dat = some d) (h2 : tysD ts = some Ts) (h3 : tyD d = some t) (h4 : kitBs t Ts = some b) (q : Q (.d (.bl b))) : isiTR [v, .d (.tup ts)] Q := by
  unfold isiTR
  dsimp only
  rw [h1, h2]
  dsimp only
  rw [h3]
  dsimp only
  rw [h4]
  exact q
/-! ### keyword-only parameters -/
theorem bd_kw {K : PySem.W.Frag} {x qual : Str} {params : Arguments} {body : List Stmt} {scope : Scope} {kws : List (Str × V)} {f : Addr} {fd : FuncData} {ps ks : List Str} {n : Nat} {sel : List Sel} (F : FunD K x qual params body scope [] kws f fd) (ms : List (Str × V)) (hk : kws ≠ []) (hms : ∀ q ∈ ms, q ∈ kws) (g : {α : Type} → List α → List α → List α → List α)
    (hrel : ∀ {vs mz zs : List V} {us mv ws : List Value}, Vals vs us → Vals mz mv → Vals zs ws → Vals (g vs mz zs) (g us mv ws))
    (h : ∀ (D : Addr) (doc pm : Value) (an : Option Addr) (cdv ct : Value) (us mv ws : List Value), us.length = n → mv.length = ms.length → ws.length = ks.length →
      KwChain D ((ms.map (·.1)).zip mv) (bindArgs (PySem.W.fnOf x qual params body scope .none (.ref D) doc pm an cdv ct) ⟨us, ks.zip ws⟩) (ps.zip (g us mv ws)))
    (hv : ∀ (vs qs : List V), vs.length = n → qs.length = ks.length → sel.map (pickV vs qs) = g vs (ms.map (·.2)) qs) (hs : ∀ s ∈ sel, ∀ (v : V) (d : D), s = .dfl v d → ∀ G, DOk K G v d) : Bd K fd ps n ks sel := by
  obtain ⟨mv, B⟩ := F.kbinds0 (ps := ps) n ks ms g hk hms hrel h
  exact ⟨fun s us ws vs qs X l1 l2 r1 r2 => ⟨_, B.to s us ws X l1 l2, by rw [hv vs qs (r1.length.trans l1) (r2.length.trans l2)]; exact B.rel r1 r2⟩, hs⟩
end DL

set_option Elab.async false
set_option linter.all false
set_option maxRecDepth 100000
set_option autoImplicit false
set_option maxHeartbeats 2000000
/-! ratios as pairs of ints -/
namespace DL
open PySem PySem.Spec PyProof.Rows L2
abbrev rt (n d : Int) : D := .tup [.int n, .int d]
def rD (q : Rat) : D := rt q.num (q.den : Int)
def gcI (n d : Int) : Int := ((Nat.gcd n.natAbs d.natAbs : Nat) : Int)
theorem gcI_pos {n d : Int} (h : 0 < d) : 0 < gcI n d := by
  unfold gcI
  have : 0 < Nat.gcd n.natAbs d.natAbs := Nat.gcd_pos_of_pos_right _ (by omega)
  omega
theorem low_num {n d : Int} (h : 0 < d) : (Rat.divInt n d).num = n / gcI n d := by
  rw [Rat.num_divInt, Int.sign_eq_one_of_pos h, Int.one_mul]
  unfold gcI
  rw [Int.gcd_comm]; rfl
theorem low_den {n d : Int} (h : 0 < d) : ((Rat.divInt n d).den : Int) = d / gcI n d := by
  rw [Rat.den_divInt, if_neg (by omega), Int.gcd_comm]
  show ((d.natAbs / Nat.gcd n.natAbs d.natAbs : Nat) : Int) = d / ((Nat.gcd n.natAbs d.natAbs : Nat) : Int)
  rw [Int.natCast_ediv, Int.natAbs_of_nonneg (by omega)]
theorem rD_low {n d : Int} (h : 0 < d) : rD (Rat.divInt n d) = rt (n / gcI n d) (d / gcI n d) := by
  unfold rD; rw [low_num h, low_den h]
theorem den_pos (q : Rat) : (0 : Int) < (q.den : Int) := by have := q.den_pos; omega
theorem rat_self (q : Rat) : Rat.divInt q.num (q.den : Int) = q := Rat.num_divInt_den q
theorem rat_add (p q : Rat) : Rat.divInt (p.num * q.den + q.num * p.den) ((p.den : Int) * q.den) = p + q := by
  have h1 : (p.den : Int) ≠ 0 := by have := den_pos p; omega
  have h2 : (q.den : Int) ≠ 0 := by have := den_pos q; omega
  rw [← Rat.divInt_add_divInt _ _ h1 h2, rat_self, rat_self]
theorem rat_mul (p q : Rat) : Rat.divInt (p.num * q.num) ((p.den : Int) * q.den) = p * q := by
  rw [← Rat.divInt_mul_divInt, rat_self, rat_self]
theorem rat_lt (p q : Rat) : decide (p.num * (q.den : Int) < q.num * p.den) = decide (p < q) := decide_eq_decide.mpr (Rat.lt_iff p q).symm
/-- bits -/
structure Nb (B : Nat) (q : Rat) : Prop where
  n : q.num.natAbs < 2 ^ B
  d : q.den < 2 ^ B
theorem Nb.mono {B C : Nat} {q : Rat} (h : Nb B q) (le : B ≤ C) : Nb C q := ⟨Nat.lt_of_lt_of_le h.n (Nat.pow_le_pow_right (by decide) le), Nat.lt_of_lt_of_le h.d (Nat.pow_le_pow_right (by decide) le)⟩
theorem nb_low {n d : Int} {B : Nat} (h : 0 < d) (h1 : n.natAbs < 2 ^ B) (h2 : d.natAbs < 2 ^ B) : Nb B (Rat.divInt n d) := by
  have g := gcI_pos (n := n) h
  refine ⟨?_, ?_⟩
  · rw [low_num h]
    have dv : gcI n d ∣ n := by
      show ((Nat.gcd n.natAbs d.natAbs : Nat) : Int) ∣ n
      exact Int.gcd_dvd_left n d
    rw [Int.natAbs_ediv_of_dvd dv]
    exact Nat.lt_of_le_of_lt (Nat.div_le_self _ _) h1
  · have e := low_den (n := n) h
    have : (Rat.divInt n d).den ≤ d.natAbs := by
      have l : d / gcI n d ≤ d := Int.ediv_le_self _ (by omega)
      omega
    exact Nat.lt_of_le_of_lt this h2
theorem nb_add {p q : Rat} {B C : Nat} (hp : Nb B p) (hq : Nb C q) : Nb (B + C + 1) (p + q) := by
  rw [← rat_add]
  have e : 2 ^ (B + C + 1) = 2 ^ B * 2 ^ C + 2 ^ B * 2 ^ C := by rw [Nat.pow_succ, Nat.pow_add]; omega
  refine nb_low (Int.mul_pos (den_pos p) (den_pos q)) ?_ ?_
  · have a1 : (p.num * (q.den : Int)).natAbs < 2 ^ B * 2 ^ C := by rw [Int.natAbs_mul]; exact Nat.mul_lt_mul'' hp.n (by simpa using hq.d)
    have a2 : (q.num * (p.den : Int)).natAbs < 2 ^ B * 2 ^ C := by rw [Int.natAbs_mul, Nat.mul_comm]; exact Nat.mul_lt_mul'' (by simpa using hp.d) hq.n
    rw [e]
    exact Nat.lt_of_le_of_lt (Int.natAbs_add_le _ _) (by omega)
  · have a1 : ((p.den : Int) * (q.den : Int)).natAbs < 2 ^ B * 2 ^ C := by rw [Int.natAbs_mul]; exact Nat.mul_lt_mul'' (by simpa using hp.d) (by simpa using hq.d)
    rw [e]; omega
theorem nb_mul {p q : Rat} {B C : Nat} (hp : Nb B p) (hq : Nb C q) : Nb (B + C) (p * q) := by
  rw [← rat_mul]
  refine nb_low (Int.mul_pos (den_pos p) (den_pos q)) ?_ ?_
  · rw [Int.natAbs_mul, Nat.pow_add]; exact Nat.mul_lt_mul'' hp.n hq.n
  · rw [Int.natAbs_mul, Nat.pow_add]; exact Nat.mul_lt_mul'' (by simpa using hp.d) (by simpa using hq.d)
/-! ### kinds of values -/
def kindD (d : D) : Bool := (tyD d).isSome
def wholeD : D → Bool
  | .int _ => true
  | _ => false
def numD (lo hi : Int) : D → Bool
  | .int i => decide (lo ≤ i) && decide (i ≤ hi)
  | _ => false
def ratioD : D → Bool
  | .tup [.int a, .int b] => decide (1 ≤ b) && decide (gcI a b = 1)
  | _ => false
theorem ratioD_ne {ds : List D} (h : ds.length ≠ 2) : ratioD (.tup ds) = false := by
  unfold ratioD
  split
  · rename_i e; cases e; exact absurd rfl h
  · rfl
def pairK : D → Prop
  | .tup [a, b] => kindD a = true ∧ kindD b = true
  | _ => True
def spWhole : SpD := fun args Q _ => ∃ x : D, args = [.d x] ∧ kindD x = true ∧ Q (.d (.bl (wholeD x)))
def spNumber : SpD := fun args Q _ => ∃ (x : D) (lo hi : Int), args = [.d x, .d (.int lo), .d (.int hi)] ∧ kindD x = true ∧ Q (.d (.bl (numD lo hi x)))
def spRatio : SpD := fun args Q _ => ∃ x : D, args = [.d x] ∧ kindD x = true ∧ pairK x ∧ Q (.d (.bl (ratioD x)))
def spValued : SpD := fun args Q _ => ∃ x : D, args = [.d x] ∧ kindD x = true ∧ pairK x ∧ Q (.d (.bl (wholeD x || ratioD x)))
/-- two ints, the second above 0 and of less than 8000 bits -/
def spLow : SpD := fun args Q _ => ∃ n d : Int, args = [.d (.int n), .d (.int d)] ∧ 0 < d ∧ d.natAbs < 2 ^ 8000 ∧ Q (.d (rD (Rat.divInt n d)))
/-- a function of two ratios -/
def spRat2 (f : Rat → Rat → DV) : SpD := fun args Q _ => ∃ p q : Rat, args = [.d (rD p), .d (rD q)] ∧ Nb 3900 p ∧ Nb 3900 q ∧ Q (f p q)
def ratOf : D → Option Rat
  | .int i => some (i : Rat)
  | .tup [.int a, .int b] => if 1 ≤ b ∧ gcI a b = 1 then some (Rat.divInt a b) else none
  | _ => none
def spRatioOf : SpD := fun args Q _ => ∃ (x : D) (q : Rat), args = [.d x] ∧ ratOf x = some q ∧ Q (.d (rD q))
theorem k_int_int : kitB "int" "int" = some true := by decide +kernel
theorem k_int_bool : kitB "int" "bool" = some false := by decide +kernel
theorem k_bool_int : kitB "bool" "int" = some true := by decide +kernel
theorem k_bool_bool : kitB "bool" "bool" = some true := by decide +kernel
theorem k_str_int : kitB "str" "int" = some false := by decide +kernel
theorem k_non_int : kitB "NoneType" "int" = some false := by decide +kernel
theorem k_list_int : kitB "list" "int" = some false := by decide +kernel
theorem k_tuple_int : kitB "tuple" "int" = some false := by decide +kernel
theorem k_int_tuple : kitB "int" "tuple" = some false := by decide +kernel
theorem k_bool_tuple : kitB "bool" "tuple" = some false := by decide +kernel
theorem k_str_tuple : kitB "str" "tuple" = some false := by decide +kernel
theorem k_non_tuple : kitB "NoneType" "tuple" = some false := by decide +kernel
theorem k_list_tuple : kitB "list" "tuple" = some false := by decide +kernel
theorem k_tuple_tuple : kitB "tuple" "tuple" = some true := by decide +kernel
theorem ratioD_rD (q : Rat) : ratioD (rD q) = true := by
  have h := q.reduced
  have h0 := den_pos q
  show (decide ((1 : Int) ≤ q.den) && decide (gcI q.num q.den = 1)) = true
  have e : gcI q.num q.den = 1 := by
    unfold gcI
    have : Nat.gcd q.num.natAbs (q.den : Int).natAbs = 1 := by simpa using h
    rw [this]; rfl
  rw [e]
  have : (1 : Int) ≤ q.den := by omega
  simp [this]
theorem ratOf_rD (q : Rat) : ratOf (rD q) = some q := by
  have h := ratioD_rD q
  have h2 : (decide ((1 : Int) ≤ q.den) && decide (gcI q.num q.den = 1)) = true := h
  rw [Bool.and_eq_true, decide_eq_true_eq, decide_eq_true_eq] at h2
  show (if 1 ≤ (q.den : Int) ∧ gcI q.num q.den = 1 then some (Rat.divInt q.num q.den) else none) = some q
  rw [if_pos h2, rat_self]
/-- a pair that is in its lowest terms is its ratio's -/
theorem rD_of {a b : Int} (h1 : 1 ≤ b) (h2 : gcI a b = 1) : rD (Rat.divInt a b) = rt a b := by
  rw [rD_low (by omega), h2, Int.ediv_one, Int.ediv_one]
end DL
namespace DL
open PySem PySem.Spec PyProof.Rows L2
def dotQ : List Rat → List Rat → Rat
  | p :: ps, q :: qs => p * q + dotQ ps qs
  | _, _ => 0
def sumQ : List Rat → Rat
  | q :: qs => q + sumQ qs
  | [] => 0
theorem dot_sum : ∀ ps qs : List Rat, sumQ (List.zipWith (· * ·) ps qs) = dotQ ps qs
  | [], [] => rfl
  | [], _ :: _ => rfl
  | _ :: _, [] => rfl
  | p :: ps, q :: qs => by show p * q + _ = p * q + _; rw [dot_sum ps qs]
theorem nb_zero : Nb 1 (0 : Rat) := ⟨by decide, by decide⟩
theorem sh_pair (a b : Int) : SeqAt.shaped (.tuple [.int a, .int b]) = true := by simp [SeqAt.shaped, PyData.canLay0, PyData.canLayAll0, PyData.depth, PyData.depthAll]
theorem l_eqRat {n : Bool} {p q : Rat} {Q : DV → Prop} (h : Q (.d (.bl (if n then !decide (p = q) else decide (p = q))))) : eqR n (.d (rD p)) (.d (rD q)) Q := by
  refine l_eqD (d := rD p) (e := rD q) (p := .tuple [.int p.num, .int p.den]) (p' := .tuple [.int q.num, .int q.den]) rfl rfl rfl rfl (sh_pair _ _) (sh_pair _ _) (.inr (.inl ⟨_, rfl⟩)) ?_
  have e : PyData.eqv (.tuple [.int p.num, .int p.den]) (.tuple [.int q.num, .int q.den]) = decide (p = q) := by
    simp only [PyData.eqv, PyData.eqvAll, Bool.and_true]
    rw [Bool.eq_iff_iff]
    simp only [Bool.and_eq_true, beq_iff_eq, decide_eq_true_eq]
    constructor
    · rintro ⟨h1, h2⟩
      exact Rat.ext h1 (by exact_mod_cast h2)
    · rintro rfl; exact ⟨rfl, rfl⟩
  rw [e]; exact h
theorem num_zero {q : Rat} (h : q.num = 0) : q = 0 := by
  rw [← rat_self q, h]
  exact Rat.zero_divInt _
theorem ints_map (f : D → D) : ∀ (n : Nat) (lo : Int), (intsFrom lo n).map f = (List.range n).map fun (i : Nat) => f (.int (lo + (i : Int)))
  | 0, _ => rfl
  | n + 1, lo => by
    show f (.int lo) :: (intsFrom (lo + 1) n).map f = _
    rw [ints_map f n (lo + 1), List.range_succ_eq_map, List.map_cons, List.map_map]
    congr 1
    · simp
    · apply List.map_congr_left
      intro i _
      show f (.int (lo + 1 + (i : Int))) = f (.int (lo + ((i + 1 : Nat) : Int)))
      congr 2
      omega
end DL
namespace DL
open PySem PySem.Spec PyProof.Rows L2
theorem mem_ints {d : D} : ∀ {n : Nat} {lo : Int}, d ∈ intsFrom lo n → ∃ i : Nat, i < n ∧ d = .int (lo + (i : Int))
  | 0, _, h => by cases h
  | n + 1, lo, h => by
    rcases List.mem_cons.mp (show d ∈ D.int lo :: intsFrom (lo + 1) n from h) with e | e
    · exact ⟨0, by omega, by rw [e]; simp⟩
    · obtain ⟨i, h1, h2⟩ := mem_ints e
      exact ⟨i + 1, by omega, by rw [h2]; congr 1; omega⟩
theorem at_map {α : Type} {f : α → D} {xs : List α} {i : Nat} {x : α} (h : xs[i]? = some x) : atI (xs.map f) (i : Int) = some (f x) := by
  have hi : i < xs.length := (List.getElem?_eq_some_iff.mp h).1
  unfold atI ixN
  rw [if_pos (by omega), if_pos (by rw [List.length_map]; omega), Int.toNat_natCast]
  show (List.map f xs)[i]? = _
  rw [List.getElem?_map, h]
  rfl
theorem nb_zip {B C : Nat} : ∀ {ps qs : List Rat}, (∀ p ∈ ps, Nb B p) → (∀ q ∈ qs, Nb C q) → ∀ z ∈ List.zipWith (· * ·) ps qs, Nb (B + C) z
  | [], [], _, _, _, h => by cases h
  | [], _ :: _, _, _, _, h => by cases h
  | _ :: _, [], _, _, _, h => by cases h
  | p :: ps, q :: qs, hp, hq, z, h => by
    rcases List.mem_cons.mp (show z ∈ p * q :: List.zipWith (· * ·) ps qs from h) with e | e
    · rw [e]; exact nb_mul (hp p (List.mem_cons_self ..)) (hq q (List.mem_cons_self ..))
    · exact nb_zip (fun x hx => hp x (List.mem_cons_of_mem _ hx)) (fun x hx => hq x (List.mem_cons_of_mem _ hx)) z e
end DL

set_option Elab.async false
set_option linter.all false
set_option maxRecDepth 100000
set_option autoImplicit false
set_option maxHeartbeats 2000000
/-! zip of a tuple and a list -/
namespace DL
open PySem PySem.Spec PyProof.Rows L2
def ItM (K : PySem.W.Frag) (a b : Addr) : It :=
  ⟨fun i H => ∃ (xs ys : List V) (x y : V), SqT K H a xs ∧ SqL K H b ys ∧ xs[i]? = some x ∧ ys[i]? = some y,
   fun i H v H' => ∃ T x y, v = .ref T ∧ H T = none ∧ H' = upd H T (.tup [x, y]) ∧ (∀ xs, SqT K H a xs → xs[i]? = some x) ∧ (∀ ys, SqL K H b ys → ys[i]? = some y),
   fun i H => ∃ xs ys : List V, SqT K H a xs ∧ SqL K H b ys ∧ (i = xs.length ∧ i ≤ ys.length ∨ i = ys.length ∧ i ≤ xs.length)⟩
def tnM (n : Nat) (a b : Addr) (i : Nat) (h : Heap) : Prop :=
  IsZip h (n + 4) (n + 2) (n + 3) .none ∧ IsTupOf2 h (n + 2) (.ref n) (.ref (n + 1)) ∧ (∃ x y, IsTupOf2 h (n + 3) x y) ∧ h.IsTupleIter n a i ∧ h.IsListIter (n + 1) b i
abbrev fpM (n : Nat) : List Addr := [n + 4, n + 2, n + 3, n, n + 1]
theorem nm2 {x p q : Addr} (h1 : x ≠ p) (h2 : x ≠ q) : x ∉ [p, q] := fun h => by
  rcases List.mem_cons.mp h with e | e
  · exact h1 e
  · exact h2 (List.mem_singleton.mp e)
theorem offs (n : Nat) : n + 2 ≠ n + 4 ∧ n + 3 ≠ n + 4 ∧ n + 2 ≠ n + 3 ∧ n + 2 ≠ n ∧ n + 2 ≠ n + 1 ∧ n + 4 ≠ n ∧ n + 3 ≠ n ∧ n + 4 ≠ n + 1 ∧ n + 3 ≠ n + 1 ∧ n ≠ n + 1 ∧ n ≠ n + 4 ∧ n + 1 ≠ n + 4 := by omega
theorem offa (n a : Nat) (h : a < n) : n + 4 ≠ a ∧ n + 3 ≠ a ∧ n ≠ a ∧ n + 1 ≠ a := by omega
theorem sepM {n : Nat} {a b : Addr} (ha : a < n) (hb : b < n) : ZipSep2 (n + 4) (n + 2) (n + 3) n (n + 1) [n, a] [n + 1, b] := by
  obtain ⟨o1, o2, o3, o4, o5, o6, o7, o8, o9, o10, _, _⟩ := offs n
  obtain ⟨a1, a2, a3, a4⟩ := offa n a ha
  obtain ⟨b1, b2, b3, b4⟩ := offa n b hb
  exact ⟨o1, o2, o3, o4, List.mem_cons_self .., nm2 o6 a1, nm2 o7 a2, o5, List.mem_cons_self .., nm2 o8 b1, nm2 o9 b2, nm2 o10 b3, nm2 (Ne.symm o10) a4⟩
theorem turnM {P : Program} {w : World} {K : PySem.W.Frag} {elts : List Expr} {kk : Nat} {tpos : Pos} {n : Nat} {a b : Addr} (ha : a < n) (hb : b < n) :
    Turn P w K (.Tuple elts kk tpos) (ItM K a b) (fpM n) (n + 4) (tnM n a b) where
  mem := List.mem_cons_self ..
  obj := fun i h ⟨hz, hTI, ⟨_, _, hTO⟩, ⟨o1, e1, _, d1⟩, ⟨o2, e2, _, d2⟩⟩ c hc => by
    rcases (by simpa using hc : c = n + 4 ∨ c = n + 2 ∨ c = n + 3 ∨ c = n ∨ c = n + 1) with rfl | rfl | rfl | rfl | rfl
    · exact ⟨_, hz, fun _ q => nomatch q⟩
    · exact ⟨_, hTI, fun _ q => nomatch q⟩
    · exact ⟨_, hTO, fun _ q => nomatch q⟩
    · exact ⟨o1, e1, fun _ q => (by rw [d1] at q; cases q)⟩
    · exact ⟨o2, e2, fun _ q => (by rw [d2] at q; cases q)⟩
  keep := fun i h h' ⟨hz, hTI, ⟨x, y, hTO⟩, h1, h2⟩ k =>
    ⟨k _ (by simp) _ hz, k _ (by simp) _ hTI, ⟨x, y, k _ (by simp) _ hTO⟩, h1.at fun o q => k _ (by simp) o q, h2.at fun o q => k _ (by simp) o q⟩
  item := by
    intro X hP hw hK hc i pins s σ H E I hf ⟨hz, hTI, ⟨x0, y0, hTO⟩, h1, h2⟩ ⟨xs, ys, x, y, qx, qy, hx, hy⟩
    cases hP; cases hw; cases hK
    obtain ⟨us, rv, pt, _⟩ := I.tuple qx
    obtain ⟨us2, rv2, pl, _⟩ := I.list qy
    obtain ⟨u, hu, ru⟩ := rv.get hx
    obtain ⟨u2, hu2, ru2⟩ := rv2.get hy
    have hh : X.A.in1.handled = none := I.ok.hd hc
    have hzl : n + 4 < s.heap.objs.size := Heap.lt_size hz
    have l1 : i < us.toArray.size := by simpa using (List.getElem?_eq_some_iff.mp hu).1
    have l2 : i < us2.toArray.size := by simpa using (List.getElem?_eq_some_iff.mp hu2).1
    have na : a ≠ n := Nat.ne_of_lt ha
    have nb : b ≠ n + 1 := Nat.ne_of_lt (Nat.lt_succ_of_lt hb)
    refine wpAny_pyNext_zipD2_item (sepM ha hb) (Draws.tuple hh n a na us.toArray) (Draws.list hh (n + 1) b nb us2.toArray) hz hTI hTO ⟨h1, pt⟩ ⟨h2, pl.isList⟩ l1 l2 ?_
    intro v1 v2 h' tk e1 e2 z' TO' st1 st2 hT hsz hk
    have ev1 : v1 = u := by rw [show us.toArray[i]? = some u by simpa using hu] at e1; exact (Option.some.inj e1).symm
    have ev2 : v2 = u2 := by rw [show us2.toArray[i]? = some u2 by simpa using hu2] at e2; exact (Option.some.inj e2).symm
    subst ev1; subst ev2
    refine ⟨_, rfl, wpAny_letOwnedTupleGo_zip (s := { s with heap := h', toks := tk }) z' fun h'' z'' sb => ?_⟩
    have nz : s.heap.objs.size ≠ n + 4 := Nat.ne_of_gt hzl
    have hT2 : h''.get? s.heap.objs.size = some { cls := .type "tuple", data := .seq #[v1, v2] } := (sb.2 _ nz).trans hT
    have kept : ∀ c o, c ∉ fpM n → s.heap.get? c = some o → h''.get? c = some o := fun c o hb q => by
      have m : c ≠ n + 4 ∧ c ≠ n + 2 ∧ c ≠ n + 3 ∧ c ≠ n ∧ c ≠ n + 1 := by simpa using hb
      exact (sb.2 c m.1).trans (hk c o m.1 m.2.2.1 m.2.2.2.1 m.2.2.2.2 q)
    have I1 : Inv X pins σ (upd H s.heap.objs.size (.tup [x, y])) { s with heap := h'', toks := tk } :=
      I.turnedNew (t' := tk) (ch := fpM n) kept hf (Nat.le_refl _) ⟨by show 2 ≤ sizeLine; decide, [v1, v2], .cons ru (.cons ru2 .nil), ⟨_, hT2, rfl, _, rfl⟩⟩
    refine ⟨.ref s.heap.objs.size, _, I1, rfl, ⟨_, x, y, rfl, I.hok.fresh (Nat.le_refl _), rfl, fun l hl => ?_, fun l hl => ?_⟩, ⟨z'', ?_, ⟨v1, v2, ?_⟩, ?_, ?_⟩, fun c hcm => ?_⟩
    · rw [I.tuple_inj hl qx]; exact hx
    · rw [I.list_inj hl qy]; exact hy
    · exact (sb.2 _ (offs n).1).trans (hk _ _ (offs n).1 (offs n).2.2.1 (offs n).2.2.2.1 (offs n).2.2.2.2.1 hTI)
    · exact (sb.2 (n + 3) (offs n).2.1).trans TO'
    · exact st1.1.at fun o q => (sb.2 n (offs n).2.2.2.2.2.2.2.2.2.2.1).trans q
    · exact st2.1.at fun o q => (sb.2 (n + 1) (offs n).2.2.2.2.2.2.2.2.2.2.2).trans q
    · have hlt : c < s.heap.objs.size := by
        have hzl' : n + 4 < (s.heap.objs.size : Nat) := hzl
        rcases (by simpa using hcm : c = n + 4 ∨ c = n + 2 ∨ c = n + 3 ∨ c = n ∨ c = n + 1) with rfl | rfl | rfl | rfl | rfl
        all_goals (show (_ : Nat) < _; omega)
      rw [upd_ne (Nat.ne_of_lt hlt)]
      exact (hf c hcm).1
  done := by
    intro X hP hw hK hc i pins s σ H E I hf ⟨hz, hTI, ⟨x0, y0, hTO⟩, h1, h2⟩ ⟨xs, ys, qx, qy, hend⟩
    cases hP; cases hw; cases hK
    obtain ⟨us, rv, pt, _⟩ := I.tuple qx
    obtain ⟨us2, rv2, pl, _⟩ := I.list qy
    have hh : X.A.in1.handled = none := I.ok.hd hc
    have e1 : us.toArray.size = xs.length := by simpa using rv.length.symm
    have e2 : us2.toArray.size = ys.length := by simpa using rv2.length.symm
    have na : a ≠ n := Nat.ne_of_lt ha
    have nb : b ≠ n + 1 := Nat.ne_of_lt (Nat.lt_succ_of_lt hb)
    refine wpAny_pyNext_zipD2_end (sepM ha hb) (Draws.tuple hh n a na us.toArray) (Draws.list hh (n + 1) b nb us2.toArray) hz hTI hTO ⟨h1, pt⟩ ⟨h2, pl.isList⟩ (by omega) (by omega) (by omega) ?_
    intro h' tk hk
    refine ⟨rfl, I.turnedL (t' := tk) (ch := fpM n) (fun c o hb q => ?_) hf⟩
    have m : c ≠ n + 4 ∧ c ≠ n + 2 ∧ c ≠ n + 3 ∧ c ≠ n ∧ c ≠ n + 1 := by simpa using hb
    exact hk c o m.1 m.2.2.1 m.2.2.2.1 m.2.2.2.2 q
  self := fun A i s Q E st h => wpAny_pyIter_zip st.1 h
def iZipU (K : PySem.W.Frag) (ta : TA) : TI := fun σ H R => ta σ H fun vs H1 => ∃ a b xs ys, vs = [.ref a, .ref b] ∧
  ((SqL K H1 a xs ∧ SqL K H1 b ys ∧ R (Itz K a b) H1) ∨ (SqT K H1 a xs ∧ SqT K H1 b ys ∧ R (RZ.ItzT K a b) H1) ∨ (SqT K H1 a xs ∧ SqL K H1 b ys ∧ R (ItM K a b) H1))
theorem fresh5 {X : Cx} {pins : List (Addr × Obj)} {σ : L2.St} {H : Hp} {s : Shared} (I : Inv X pins σ H s) : ∀ c ∈ fpM s.heap.objs.size, FpOk X pins H c := fun c hc => by
  have le : s.heap.objs.size ≤ c := by
    rcases (by simpa using hc : c = s.heap.objs.size + 4 ∨ c = s.heap.objs.size + 2 ∨ c = s.heap.objs.size + 3 ∨ c = s.heap.objs.size ∨ c = s.heap.objs.size + 1) with rfl | rfl | rfl | rfl | rfl
    · exact Nat.le_add_right _ 4
    · exact Nat.le_add_right _ 2
    · exact Nat.le_add_right _ 3
    · exact Nat.le_refl _
    · exact Nat.le_add_right _ 1
  exact I.fpOk le (I.hok.fresh le)
theorem pi_zipU {X : Cx} {e e2 : Expr} {ta : TA} {p pos tpos : Pos} {elts : List Expr} {kk : Nat} (hg : Gl X "zip") (hm : X.mg "zip" = none) (ha : PA X [e, e2] ta)
    (hs : starEach [e, e2] X.env = (false, eval e X.env) :: starEach [e2] X.env := by rfl) (hpl : (backTo pos (starEach [e2] X.env)).any (·.1) = false := by rfl) :
    PI X (.Tuple elts kk tpos) (.Call (.Name "zip" p) [e, e2] [] pos) (iZipU X.K ta) := by
  refine ⟨fun pins s σ H R I h => Call_ (ld_blt I hg hm PyProof.Rows.boot_zip (PyProof.Rows.callWith_type1 (thn (ha.run pos pins s σ H _ I h) ?_) hs hpl))⟩
  rintro us s1 ⟨vs, H1, I1, r1, a, b, xs, ys, rfl, q1⟩
  obtain ⟨w1, w2, rfl, e1, e2⟩ := vals2 r1
  obtain rfl : w1 = Value.ref a := e1
  obtain rfl : w2 = Value.ref b := e2
  have f5 := fresh5 I1
  rcases q1 with ⟨qx, qy, q⟩ | ⟨qx, qy, q⟩ | ⟨qx, qy, q⟩
  · obtain ⟨_, _, p1, _⟩ := I1.list qx
    obtain ⟨_, _, p2, _⟩ := I1.list qy
    refine call_zip_2 p1.isList p2.isList fun h' hz hTI hTO h1 h2 hsz hk => wpAny_pyIter_zip hz ?_
    exact ⟨_, fpM s1.heap.objs.size, _, _, H1, rfl, I1.kept (t' := s1.toks) hk, turn_zip (PySem.W.ktu_apart s1.heap.objs.size a b p1.lt p2.lt), ⟨hz, hTI, ⟨_, _, hTO⟩, h1, h2⟩, f5, q⟩
  · obtain ⟨_, _, p1, _⟩ := I1.tuple qx
    obtain ⟨_, _, p2, _⟩ := I1.tuple qy
    obtain ⟨_, g1, _⟩ := id p1
    obtain ⟨_, g2, _⟩ := id p2
    refine RZ.call_zipT p1 p2 fun h' hz hTI hTO h1 h2 hsz hk => wpAny_pyIter_zip hz ?_
    exact ⟨_, fpM s1.heap.objs.size, _, _, H1, rfl, I1.kept (t' := s1.toks) hk, RZ.turn_zipT (PySem.W.ktu_apart s1.heap.objs.size a b (Heap.lt_size g1) (Heap.lt_size g2)), ⟨hz, hTI, ⟨_, _, hTO⟩, h1, h2⟩, f5, q⟩
  · obtain ⟨us1, _, p1, _⟩ := I1.tuple qx
    obtain ⟨us2, _, p2, _⟩ := I1.list qy
    obtain ⟨_, g1, _⟩ := id p1
    refine zip_begins2 (begins_tuple a us1.toArray) (begins_list b us2.toArray) p1 p2.isList fun h' hz hTI hTO h1 h2 hsz hk => wpAny_pyIter_zip hz ?_
    exact ⟨_, fpM s1.heap.objs.size, _, _, H1, rfl, I1.kept (t' := s1.toks) hk, turnM (Heap.lt_size g1) p2.lt, ⟨hz, hTI, ⟨_, _, hTO⟩, ⟨_, h1, rfl, rfl⟩, ⟨_, h2, rfl, rfl⟩⟩, f5, q⟩
theorem it_zipM {K : PySem.W.Frag} {G H : Hp} {so : So} {σ : L2.St} {sl : DSt} {c c' : Addr} {vs ws : List V} {ds es : List D} (rep : Rep K G so σ H sl) (g : SqT K G c vs) (al : DAll K G vs ds) (g' : G c' = some (.lst ws)) (al' : DAll K G ws es) : ItD K G so σ H sl (ItM K c c') (zipD ds es) := by
  have hl := zip_len ds es
  have kp : ∀ (H1 : Hp), (∀ a ∈ (if G c = none then [] else [c]), H1 a = H a) → SqT K H1 c vs := fun H1 k => by
    rcases g with (e | ⟨o, e⟩) | e
    · refine .inl (.inl ?_)
      rw [k c (by rw [if_neg (by rw [e]; simp)]; simp)]; exact rep.h.ex _ _ e
    · refine .inl (.inr ⟨o, ?_⟩)
      rw [k c (by rw [if_neg (by rw [e]; simp)]; simp)]; exact rep.h.ex _ _ e
    · exact .inr e
  have st : ∀ (H1 : Hp), (∀ a ∈ (if G c = none then [] else [c]) ++ [c'], H1 a = H a) → SqT K H1 c vs ∧ SqL K H1 c' ws := fun H1 k =>
    ⟨kp H1 fun a ha => k a (List.mem_append_left _ ha), SqL.of (by rw [k c' (List.mem_append_right _ (List.mem_singleton.mpr rfl))]; exact rep.h.ex _ _ g')⟩
  refine ⟨(if G c = none then [] else [c]) ++ [c'], fun a ha => ?_, fun i H1 hi k => ?_, fun H1 k => ?_, fun i H1 x H2 G1 k g1 h1 y hi => ?_⟩
  · rcases List.mem_append.mp ha with ha | ha
    · split at ha
      · simp at ha
      · rename_i z
        obtain rfl : a = c := by simpa using ha
        obtain ⟨o, eo⟩ := Option.ne_none_iff_exists'.mp z
        exact ⟨by rw [rep.h.ex _ _ eo]; simp, rep.h.nsrc eo, fun q => z (rep.nown q).2.1⟩
    · obtain rfl : a = c' := by simpa using ha
      exact ⟨by rw [rep.h.ex _ _ g']; simp, rep.h.nsrc g', rep_own rep g'⟩
  · have h1 : i < vs.length := by rw [al.length]; rw [hl] at hi; omega
    have h2 : i < ws.length := by rw [al'.length]; rw [hl] at hi; omega
    exact ⟨vs, ws, vs[i], ws[i], (st H1 k).1, (st H1 k).2, by simp [h1], by simp [h2]⟩
  · refine ⟨vs, ws, (st H1 k).1, (st H1 k).2, ?_⟩
    rw [hl, al.length, al'.length]
    omega
  · obtain ⟨T, x1, x2, h2, h3, h4, f1, f2⟩ := y
    have f1' := f1 vs (st H1 k).1
    have f2' := f2 ws (st H1 k).2
    subst h2; subst h4
    obtain ⟨d1, e1, e2⟩ := al.getV f1'
    obtain ⟨d2, e3, e4⟩ := al'.getV f2'
    exact ⟨_, _, zip_get ds es i d1 d2 e1 e3, .tuple h1 h3 (.cons (e2.mono g1) (.cons (e4.mono g1) .nil))⟩
@[irreducible] def zipUR : List DV → (List D → Prop) → Prop
  | [.d (.tup xs), .d (.tup ys)], Q => Q (zipD xs ys)
  | [.d (.lst xs), .d (.lst ys)], Q => Q (zipD xs ys)
  | [.d (.tup xs), .d (.lst ys)], Q => Q (zipD xs ys)
  | _, _ => False
theorem di_zipU {X : Cx} {W : WX} {e e2 : Expr} {ta : TDA} {pos p : Pos} {elts : List Expr} {kk : Nat} {tpos : Pos} (hg : Gl X "zip") (hm : X.mg "zip" = none) (h : DA X W [e, e2] ta) (hs : starEach [e, e2] X.env = (false, eval e X.env) :: starEach [e2] X.env := by rfl) (hpl : (backTo pos (starEach [e2] X.env)).any (·.1) = false := by rfl) :
    DI X W (.Tuple elts kk tpos) (.Call (.Name "zip" p) [e, e2] [] pos) (dItA zipUR ta) := pi_imp (pi_zipU hg hm h hs hpl) fun σ H R ⟨G, so, sl, Q, E, rep, q, hq, hx⟩ => by
  refine ⟨G, so, sl, _, E, rep, q, fun vs H1 G1 ds s1 pp w q1 => ?_, hx⟩
  unfold zipUR at q1
  split at q1
  · obtain ⟨v, v', rfl, w1, w2, _⟩ := w.v2
    cases w1 with
    | tup g al =>
      cases w2 with
      | tup g' al' => exact ⟨_, _, _, _, rfl, .inr (.inl ⟨ex_t pp.rep.h.ex g, ex_t pp.rep.h.ex g', hq _ H1 G1 _ s1 pp (it_zipT pp.rep g al g' al') q1⟩)⟩
  · obtain ⟨v, v', rfl, w1, w2, _⟩ := w.v2
    cases w1 with
    | lst g al =>
      cases w2 with
      | lst g' al' => exact ⟨_, _, _, _, rfl, .inl ⟨SqL.of (pp.rep.h.ex _ _ g), SqL.of (pp.rep.h.ex _ _ g'), hq _ H1 G1 _ s1 pp (it_zip (pp.rep.h.ex _ _ g) al (pp.rep.h.nsrc g) (rep_own pp.rep g) (pp.rep.h.ex _ _ g') al' (pp.rep.h.nsrc g') (rep_own pp.rep g')) q1⟩⟩
  · obtain ⟨v, v', rfl, w1, w2, _⟩ := w.v2
    cases w1 with
    | tup g al =>
      cases w2 with
      | lst g' al' => exact ⟨_, _, _, _, rfl, .inr (.inr ⟨ex_t pp.rep.h.ex g, SqL.of (pp.rep.h.ex _ _ g'), hq _ H1 G1 _ s1 pp (it_zipM pp.rep g al g' al') q1⟩)⟩
  · exact q1.elim
theorem l_zipTT {P : List D → Prop} {ds es : List D} (q : P (zipD ds es)) : zipUR [.d (.tup ds), .d (.tup es)] P := by unfold zipUR; exact q
theorem l_zipTL {P : List D → Prop} {ds es : List D} (q : P (zipD ds es)) : zipUR [.d (.tup ds), .d (.lst es)] P := by unfold zipUR; exact q
theorem l_zipLL {P : List D → Prop} {ds es : List D} (q : P (zipD ds es)) : zipUR [.d (.lst ds), .d (.lst es)] P := by unfold zipUR; exact q
end DL

set_option Elab.async false
set_option linter.all false
set_option maxRecDepth 100000
set_option autoImplicit false
set_option maxHeartbeats 2000000
/-! own exceptions: super().__init__(text), then self.f = .. -/
namespace DL
open PySem PySem.Spec PyProof.Rows L2

/-! ### the stores, over the heap -/
section
variable {prog : Program} {w : World} {A : Around} {E : Value → Shared → Prop} {s : Shared} {K : PySem.W.Frag} {C x t : Addr} {name : Str} {v : Value} {B : String} {bmB : List Value} {Q : Unit → Shared → Prop}
/-- what the written part says of an exception's class for its fields to be stored -/
structure StK (K : PySem.W.Frag) (C : Addr) (bmB : List Value) : Prop where
  sa : PySem.W.findIn K (.ref C) "__setattr__" = some (some (.builtin "object.__setattr__"))
  ov : PySem.W.excOver K C bmB = true
  hd : PySem.W.hasDictIn K C = true
theorem set_first (SF : PySem.StoreFacts B bmB "object.__setattr__" "object") (X : K.In s.heap) (T : StK K C bmB) (hx : s.heap.get? x = some (PySem.W.excObj C t none .none)) (ht : PySem.W.takerIn K C name = some none)
    (h : ∀ h' tk dx, (∀ b o, b ≠ x → s.heap.get? b = some o → h'.get? b = some o) → s.heap.get? dx = none → h'.get? x = some (PySem.W.excObj C t (some dx) .none) → h'.Ns1 dx (fun y => if y = name then some v else none) → Q () { s with heap := h', toks := tk }) :
    wpAny (model prog w) A (setAttr (.ref x) name v) Q E s := by
  have I : PySem.W.InstAt s.heap x (PySem.W.excObj C t none .none) C none := ⟨hx, rfl, rfl, trivial⟩
  refine PySem.W.set_plain X I T.sa (PySem.W.osa_openX (s := { s with toks := s.toks + 1 }) SF X I T.ov ht fun b => ?_)
  obtain ⟨cd, hc, hd⟩ := PySem.W.any_some T.hd
  refine wpAny_bind (wpAny_pure (wpAny_bind (PySem.W.instanceDict_exc (s := { s with toks := s.toks + 1 }) hx (PySem.W.looks_clsIn X hc) hd ?_)))
  show wpAny _ _ (Builtin.ObjectAttr.storeInDict s.heap.objs.size _ name v) _ _ _
  have lt := Heap.lt_size hx
  refine HandSPX.store_in_new ⟨_, #[], _, (Heap.get?_update_ne _ _ _ _ (Nat.ne_of_gt lt)).trans (Heap.get?_push_at rfl rfl), rfl, fun e he => absurd he (by simp), fun _ => rfl⟩ fun h' tk hn hs => ?_
  refine h h' tk s.heap.objs.size (fun b o hb ho => ?_) (Heap.get?_none_of_le (Nat.le_refl _)) ?_ hn
  · exact (hs.2 b (Nat.ne_of_lt (Heap.lt_size ho))).trans ((Heap.get?_update_ne _ _ _ _ hb).trans (Heap.get?_push_of_some _ ho))
  · refine (hs.2 x (Nat.ne_of_lt lt)).trans ?_
    exact Heap.get?_update_self _ (Heap.get?_push_of_some _ hx) rfl
theorem set_next {dx : Addr} {m0 : Str → Option Value} {nl : List Str} (SF : PySem.StoreFacts B bmB "object.__setattr__" "object") (X : K.In s.heap) (T : StK K C bmB) (hx : s.heap.get? x = some (PySem.W.excObj C t (some dx) .none)) (ht : PySem.W.takerIn K C name = some none)
    (hn : s.heap.Ns1 dx m0) (hw : Within m0 nl) (hz : nl.length ≤ 1000)
    (h : ∀ h' tk, (∀ b o, b ≠ dx → s.heap.get? b = some o → h'.get? b = some o) → h'.Ns1 dx (fun y => if y = name then some v else m0 y) → Q () { s with heap := h', toks := tk }) :
    wpAny (model prog w) A (setAttr (.ref x) name v) Q E s := by
  obtain ⟨oD, _, _, hoD, _, _⟩ := hn.count hw
  have I : PySem.W.InstAt s.heap x (PySem.W.excObj C t (some dx) .none) C (some oD) := ⟨hx, rfl, rfl, hoD⟩
  refine PySem.W.set_plain X I T.sa (PySem.W.osa_openX (s := { s with toks := s.toks + 1 }) SF X I T.ov ht fun b => ?_)
  obtain ⟨cd, hc, hd⟩ := PySem.W.any_some T.hd
  refine wpAny_bind (wpAny_pure (wpAny_bind (wpAny_bind (wpAny_loadPart hx (wpAny_bind (PySem.W.Looks.here (s := { s with toks := s.toks + 1 }) (PySem.W.looks_clsIn X hc) ?_))))))
  rw [hd]
  refine wpAny_pure (a := some dx) ?_
  exact PySem.OEX.store_in_old hn hw hz fun h' tk hn' hs => h h' tk (fun b o hb ho => (hs.2 b hb).trans ho) hn'
end

/-! ### the statements self.f = text, self.f = parameter -/
inductive Sts (self : Str) : List Stmt → List (Str × (Str ⊕ Str)) → Prop
  | nil : Sts self [] []
  | con {f m : Str} {j : Nat} {p1 p2 p3 pos : Pos} {rest : List Stmt} {fs : List (Str × (Str ⊕ Str))} (hs : ∀ env, swapsWith (.Constant (.str m) j p3) (some (.Attribute (.Name self p1) f p2)) pos.line env = pure false) (r : Sts self rest fs) :
      Sts self (.Assign [.Attribute (.Name self p1) f p2] (.Constant (.str m) j p3) pos :: rest) ((f, .inl m) :: fs)
  | var {f x : Str} {p1 p2 p3 pos : Pos} {rest : List Stmt} {fs : List (Str × (Str ⊕ Str))} (hs : ∀ env, swapsWith (.Name x p3) (some (.Attribute (.Name self p1) f p2)) pos.line env = pure false) (hd : (x == ("__debug__" : Str)) = false) (r : Sts self rest fs) :
      Sts self (.Assign [.Attribute (.Name self p1) f p2] (.Name x p3) pos :: rest) ((f, .inr x) :: fs)
/-- the fields, the last one first -/
def fldV (val : Str → V) : List (Str × (Str ⊕ Str)) → List (Str × V) → List (Str × V)
  | [], acc => acc
  | (f, .inl m) :: r, acc => fldV val r ((f, .str m) :: acc)
  | (f, .inr x) :: r, acc => fldV val r ((f, val x) :: acc)
/-- the exception at e with so many fields, over the heap h1 -/
structure ExAt (h1 : Heap) (C e t : Addr) (fs : List (Str × V)) (s : Shared) : Prop where
  keep : ∀ b o, b ≠ e → h1.get? b = some o → s.heap.get? b = some o
  at_ : (fs = [] ∧ s.heap.get? e = some (PySem.W.excObj C t none .none)) ∨ ∃ dx mA, h1.get? dx = none ∧ s.heap.get? e = some (PySem.W.excObj C t (some dx) .none) ∧ s.heap.Ns1 dx mA ∧ ∀ f, RelO (fs.lookup f) (mA f)
section
variable {prog : Program} {w : World} {A : Around} {E : Value → Shared → Prop} {K : PySem.W.Frag} {C e t L : Addr} {B : String} {bmB : List Value} {h1 : Heap} {env : Env} {m : Str → Option Value} {self : Str} {val : Str → V}
theorem run_set {f : Str} {u : Value} {y : V} {fs : List (Str × V)} {s : Shared} {Q : Unit → Shared → Prop} (SF : PySem.StoreFacts B bmB "object.__setattr__" "object") (T : StK K C bmB) (X : K.In s.heap) (a : ExAt h1 C e t fs s) (e1 : ∃ o, h1.get? e = some o) (hl : fs.length ≤ 900) (ht : PySem.W.takerIn K C f = some none) (ry : RelV y u)
    (h : ∀ h' tk, ExAt h1 C e t ((f, y) :: fs) { s with heap := h', toks := tk } → Q () { s with heap := h', toks := tk }) : wpAny (model prog w) A (setAttr (.ref e) f u) Q E s := by
  rcases a.at_ with ⟨rfl, hx⟩ | ⟨dx, mA, nd, hx, hn, rel⟩
  · refine set_first SF X T hx ht fun h' tk dx k nd hx' hn => h h' tk ⟨fun b o hb ho => k b o hb (a.keep b o hb ho), .inr ⟨dx, _, ?_, hx', hn, relO_put (fs := []) ry fun g => True.intro⟩⟩
    cases z : h1.get? dx with
    | none => rfl
    | some o =>
      by_cases q : dx = e
      · subst q; rw [hx] at nd; cases nd
      · rw [a.keep dx o q z] at nd; cases nd
  · refine set_next SF X T hx ht hn (within_of rel) (by rw [List.length_map]; omega) fun h' tk k hn' => h h' tk ⟨fun b o hb ho => k b o (fun z => ?_) (a.keep b o hb ho), .inr ⟨dx, _, nd, k e _ (fun z => ?_) hx, hn', relO_put ry rel⟩⟩
    · rw [z, nd] at ho; cases ho
    · obtain ⟨o, ho⟩ := e1
      rw [z, nd] at ho; cases ho
theorem run_sts (SF : PySem.StoreFacts B bmB "object.__setattr__" "object") (T : StK K C bmB) (hk : env.scope.kind = .function) (hn : h1.Ns env.locals m) (nL : env.locals ≠ e) (Kh : K.In h1) (Ke : K.lookup e = none) (e1 : ∃ o, h1.get? e = some o) (hself : env.kindOf self = some .local) (ms : m self = some (.ref e)) (hsd : (self == ("__debug__" : Str)) = false) :
    ∀ {body : List Stmt} {fs : List (Str × (Str ⊕ Str))}, Sts self body fs → (∀ f ∈ fs, PySem.W.takerIn K C f.1 = some none) → (∀ f ∈ fs, ∀ x, f.2 = .inr x → env.kindOf x = some .local ∧ ∃ u, m x = some u ∧ RelV (val x) u) →
      ∀ {acc : List (Str × V)} {s : Shared} {Q : Flow → Shared → Prop}, acc.length + fs.length ≤ 900 → ExAt h1 C e t acc s → (∀ h' tk, ExAt h1 C e t (fldV val fs acc) { s with heap := h', toks := tk } → Q .next { s with heap := h', toks := tk }) →
      wpAny (model prog w) A (execs body env) Q E s := by
  have nsK : ∀ {s : Shared} {acc : List (Str × V)}, ExAt h1 C e t acc s → s.heap.Ns env.locals m := fun {s acc} a => by
    obtain ⟨o, es, ep, e2, r⟩ := hn
    exact ⟨o, es, ep, a.keep _ _ nL e2, r⟩
  have inK : ∀ {s : Shared} {acc : List (Str × V)}, ExAt h1 C e t acc s → K.In s.heap := fun {s acc} a b o q => a.keep b o (fun z => by subst z; rw [Ke] at q; cases q) (Kh b o q)
  intro body fs st
  induction st with
  | nil => intro _ _ acc s Q _ a h; exact wpAny_execs_nil (h s.heap s.toks a)
  | @con f m' j p1 p2 p3 pos rest fs hs r ih =>
    intro h1' h2' acc s Q hl a h
    refine wpAny_execs_cons (plainObj_wpAny_Assign_Attribute (Calls.Constant_str ?_) (hs env))
    have a1 : ExAt h1 C e t acc { s with toks := s.toks + 1 } := ⟨a.keep, a.at_⟩
    refine wpAny_Name (wpAny_loadName_local hk hself (nsK a1) ms ?_) hsd
    refine run_set SF T (inK a1) a1 e1 (by rw [List.length_cons] at hl; omega) (h1' _ (List.mem_cons_self ..)) (y := .str m') ⟨_, rfl⟩ fun h' tk a2 => ?_
    exact ih (fun f hf => h1' f (List.mem_cons_of_mem _ hf)) (fun f hf => h2' f (List.mem_cons_of_mem _ hf)) (by rw [List.length_cons] at hl ⊢; omega) a2 fun h'' tk' a3 => h h'' tk' a3
  | @var f x p1 p2 p3 pos rest fs hs hd r ih =>
    intro h1' h2' acc s Q hl a h
    obtain ⟨kx, u, mx, ru⟩ := h2' _ (List.mem_cons_self ..) x rfl
    refine wpAny_execs_cons (plainObj_wpAny_Assign_Attribute (wpAny_Name (wpAny_loadName_local hk kx (nsK a) mx ?_) hd) (hs env))
    refine wpAny_Name (wpAny_loadName_local hk hself (nsK a) ms ?_) hsd
    refine run_set SF T (inK a) a e1 (by rw [List.length_cons] at hl; omega) (h1' _ (List.mem_cons_self ..)) ru fun h' tk a2 => ?_
    exact ih (fun f hf => h1' f (List.mem_cons_of_mem _ hf)) (fun f hf => h2' f (List.mem_cons_of_mem _ hf)) (by rw [List.length_cons] at hl ⊢; omega) a2 fun h'' tk' a3 => h h'' tk' a3
end
end DL

set_option Elab.async false
set_option linter.all false
set_option maxRecDepth 100000
set_option autoImplicit false
set_option maxHeartbeats 2000000
namespace DL
open PySem PySem.Spec PyProof.Rows L2

/-! ### __init__ of an own exception -/
/-- the built-in class below the own ones -/
structure ExBase (B newId initId : String) (bmB : List Value) : Prop where
  fb : PySem.ExcBaseFacts B newId initId bmB
  kf : PySem.W.KxsFacts B initId
  sf : PySem.StoreFacts B bmB "object.__setattr__" "object"
/-- what the written part says of the class at C and of its __init__ at fI -/
structure ExK (K : PySem.W.Frag) (file : Str) (C fI : Addr) (params : Arguments) (body : List Stmt) (scope : Scope) (B newId initId : String) (bmB : List Value) : Prop where
  st : StK K C bmB
  q : PySem.W.excInitIn K C bmB newId = true
  hi : PySem.W.findIn K (.ref C) "__init__" = some (some (.ref fI))
  ff : PySem.W.typeIn K (.ref fI) = some (.type "function")
  sup : PySem.W.ks_superIn K C C "__init__" = some (some (.builtin initId))
  sub : PySem.W.subIn K (.ref C) (.type B) = some true
  own : PySem.W.mroIn K C (.ref C) = some true
  exC : PySem.W.subIn K (.ref C) (.type "BaseException") = some true
  tyC : PySem.W.typeIn K (.ref C) = some (.type "type")
  kC : PySem.W.keepIn K (.ref C) = true
  op : PySem.W.nsIn K cStatics "thirdparty.any" = some none
  fn : ∃ (oc : Value) (od : Option Addr) (osl : Array (Option Value)) (name qual : Str) (doc pm : Value) (an : Option Addr) (cda cc : Addr) (ct : Value) (vs : Array Value) (tf : Tok) (ccl cl : Value) (cdd cld : Option Addr) (ccs csl : Array (Option Value)),
    K.lookup fI = some ⟨oc, od, .func (PySem.W.ksFn name qual params body scope .none .none doc pm an (.ref cda) ct cc), osl⟩ ∧ PySem.W.codeIn K (.ref cda) qual = true ∧ K.lookup cda = some ⟨ccl, cdd, .fields vs, ccs⟩ ∧ vs[2]? = some (.str file tf) ∧ K.lookup cc = some ⟨cl, cld, .cell (some (.ref C)), csl⟩
/-- the shape of the text -/
structure ExT (body : List Stmt) (params : Arguments) (scope : Scope) (sf : Str) (ps : List Str) (fs : List (Str × (Str ⊕ Str))) : Prop where
  shape : ∃ p0 p1 p2 p3 p4 p5 msg j rest, body = .Expr (.Call (.Attribute (.Call (.Name "super" p0) [] [] p1) "__init__" p2) [.Constant (.str msg) j p3] [] p4) p5 :: rest ∧ Sts sf rest fs ∧
    (∀ env : Env, ∃ pl : Sem Bool, eval (.Call (.Attribute (.Call (.Name "super" p0) [] [] p1) "__init__" p2) [.Constant (.str msg) j p3] [] p4) env = (do
      let ov ← attributeBase (.Call (.Name "super" p0) [] [] p1) "__init__" env (eval (.Call (.Name "super" p0) [] [] p1) env)
      standAt p2.atName
      let (f, first) ← holding [ov] (getMethod ov "__init__" pl)
      callWith p4 f first (backTo p4 (starEach [.Constant (.str msg) j p3] env)) [])) ∧
    (∀ env : Env, env.scope.kind = .function → interactive env = false) ∧ ∀ env : Env, swapsWith (.Call (.Attribute (.Call (.Name "super" p0) [] [] p1) "__init__" p2) [.Constant (.str msg) j p3] [] p4) none p5.line env = pure false
  head : ∃ ar, (params.posonlyargs ++ params.args).head? = some ar ∧ ar.arg = sf
  ks : scope.names.lookup ("super" : Str) = some .globalImplicit
  kc : scope.names.lookup ("__class__" : Str) = some .free
  loc : ∀ x ∈ sf :: ps, scope.names.lookup x = some .local
  kind : scope.kind = .function
  co : scope.isCoroutine = false
  gen : scope.isGenerator = false
  cell : ∀ x ∈ scope.names, x.2 ≠ .cell
  flds : ∀ f ∈ fs, ∀ x, f.2 = .inr x → x ∈ ps
  nod : (sf :: ps).Nodup
  sd : (sf == ("__debug__" : Str)) = false
  len : fs.length ≤ 900
section
variable {prog : Program} {w : World} {A : Around} {R : Result → Shared → Prop} {s : Shared} {K : PySem.W.Frag} {mg mb : Str → Option Value} {file : Str} {C fI e t : Addr} {params : Arguments} {body : List Stmt} {scope : Scope} {B newId initId : String} {bmB : List Value} {self : Str} {ps : List Str} {fs : List (Str × (Str ⊕ Str))} {us : List Value} {vs : List V} {val : Str → V}
theorem lookup_zip : ∀ {ps : List Str} {us : List Value} {vs : List V} {x : Str}, Vals vs us → vs.length = ps.length → ps.Nodup → x ∈ ps → ∃ u v, (ps.zip us).reverse.lookup x = some u ∧ (ps.zip vs).lookup x = some v ∧ RelV v u
  | [], _, _, _, _, _, _, h => by cases h
  | p :: ps, _, _, x, .nil, hl, _, _ => by cases hl
  | p :: ps, u :: us, v :: vs, x, .cons r rs, hl, hn, hx => by
    rw [List.zip_cons_cons, List.zip_cons_cons, List.reverse_cons, List.lookup_append, List.lookup_cons]
    obtain ⟨np, hn'⟩ := List.nodup_cons.mp hn
    have out : ∀ (y : Str), y ∉ ps → (ps.zip us).reverse.lookup y = none := fun y hy => by
      rw [List.lookup_eq_none_iff]
      intro q hq
      have := (List.of_mem_zip (List.mem_reverse.mp hq)).1
      rw [bne_iff_ne]
      intro z
      exact hy (z ▸ this)
    rcases List.mem_cons.mp hx with rfl | hx
    · rw [out _ np]
      refine ⟨u, v, ?_, ?_, r⟩
      · simp [List.lookup]
      · simp
    · have ne : (x == p) = false := by rw [beq_eq_false_iff_ne]; intro z; exact np (z ▸ hx)
      obtain ⟨u', v', h1, h2, h3⟩ := lookup_zip rs (by simpa using hl) hn' hx
      refine ⟨u', v', ?_, ?_, h3⟩
      · rw [h1]; rfl
      · rw [List.lookup_cons, ne]; exact h2
theorem run_init (XB : ExBase B newId initId bmB) (EK : ExK K file C fI params body scope B newId initId bmB) (ET : ExT body params scope self ps fs) (X : K.In s.heap) (G : s.heap.Ns mainGlobals mg) (hsu : mg ("super" : Str) = none) (Bn : s.heap.Ns builtinsNs mb) (hbn : mb ("super" : Str) = some (.type "super")) (lim : s.heap.NoLimit)
    (hfile : ((prog.main.file : Str) == file) = true) (htop : (prog.main.scope.names.lookup ("super" : Str)).isSome = false) (hroom : A.depth < recursionLimit) (he : s.heap.get? e = some (PySem.W.excObj C t none .none)) (Ke : K.lookup e = none)
    (rv : Vals vs us) (hl : vs.length = ps.length) (hbind : ∀ (name qual : Str) (doc pm : Value) (an : Option Addr) (cda ct : Value) (cc : Addr), bindArgs (PySem.W.ksFn name qual params body scope .none .none doc pm an cda ct cc) ⟨.ref e :: us, []⟩ = pure ((self :: ps).zip (.ref e :: us)))
    (ht : ∀ f ∈ fs, PySem.W.takerIn K C f.1 = some none)
    (h : ∀ h' tk t', ExAt s.heap C e t' (fldV (fun x => ((ps.zip vs).lookup x).getD .non) fs []) { s with heap := h', toks := tk } → R (.ok (.ret .none)) { s with heap := h', toks := tk }) :
    codeAny (model prog w) A (.call (.ref fI) ⟨.ref e :: us, []⟩) R s := by
  obtain ⟨oc, od, osl, name, qual, doc, pm, an, cda, cc, ct, cvs, tf, ccl, cl, cdd, cld, ccs, csl, lk, hcd, lkc, hv2, lcc⟩ := EK.fn
  obtain ⟨p0, p1, p2, p3, p4, p5, msg, j, rest, hbd, hst, hev, hint, hsw⟩ := ET.shape
  obtain ⟨ar, har, hself⟩ := ET.head
  have hlen : us.length = ps.length := by rw [← rv.length]; exact hl
  have hlcl : ∀ x ∈ (self :: ps).zip (Value.ref e :: us), scope.names.lookup x.1 = some .local := fun x hx => ET.loc x.1 (List.of_mem_zip hx).1
  refine ks_codeAny_call_defAt (fd := PySem.W.ksFn name qual params body scope .none .none doc pm an (.ref cda) ct cc) (body := body) (binds := (self :: ps).zip (Value.ref e :: us)) hroom (X _ _ lk) rfl lim (PySem.W.codeRec_of X hcd) rfl (BindsTo.of_eq (hbind _ _ _ _ _ _ _ _)) ET.cell hlcl (fun h1 hns k1 => ?_) ET.co ET.gen ET.kind
  have L : Addr := s.heap.objs.size
  generalize henv : callEnv (PySem.W.ksFn name qual params body scope .none .none doc pm an (.ref cda) ct cc) s.heap.objs.size fI = env at *
  have eloc : env.locals = s.heap.objs.size := by rw [← henv]; rfl
  have esc : env.scope = scope := by rw [← henv]; rfl
  have ekd : ∀ y, env.kindOf y = scope.names.lookup y := fun y => by rw [← henv]; rfl
  have ekf : env.scope.kind = .function := by rw [esc]; exact ET.kind
  have X1 : K.In h1 := fun b o q => k1 b o (X b o q)
  have he1 := k1 _ _ he
  have nL : env.locals ≠ e := by rw [eloc]; exact Nat.ne_of_gt (Heap.lt_size he)
  rw [← eloc] at hns
  have all := rv
  have key : ∀ x ∈ ps, ∃ u v, ((self :: ps).zip (Value.ref e :: us)).reverse.lookup x = some u ∧ (ps.zip vs).lookup x = some v ∧ RelV v u := fun x hx => by
    obtain ⟨u, v, z1, z2, z3⟩ := lookup_zip rv hl (List.nodup_cons.mp ET.nod).2 hx
    refine ⟨u, v, ?_, z2, z3⟩
    rw [List.zip_cons_cons, List.reverse_cons, List.lookup_append, z1]; rfl
  have kself : ((self :: ps).zip (Value.ref e :: us)).reverse.lookup self = some (.ref e) := by
    rw [List.zip_cons_cons, List.reverse_cons, List.lookup_append]
    have : (ps.zip us).reverse.lookup self = none := by
      rw [List.lookup_eq_none_iff]
      intro q hq
      have := (List.of_mem_zip (List.mem_reverse.mp hq)).1
      rw [bne_iff_ne]
      intro z
      exact (List.nodup_cons.mp ET.nod).1 (z ▸ this)
    rw [this]; simp [List.lookup]
  rw [hbd]
  obtain ⟨pl, hpl⟩ := hev env
  refine ks_wpAt_execs_cons (ks_wpAt_Expr_any (ks_wpAt_MethodCall ?_ hpl) (hint env ekf) (hsw env))
  refine ks_wpAt_super_base (ar := ar) ((ekd _).trans ET.ks) ((ekd _).trans ET.kc) (by decide) (f := fI) (by rw [← henv]; rfl) (X1 _ _ lk) rfl har (cc := cda) (by rw [← henv]; rfl) (X1 _ _ lkc) rfl hv2 hfile htop ?_
  obtain ⟨cd, hcdC, hdC⟩ := PySem.W.any_some EK.st.hd
  obtain ⟨oD, hD1, hD2⟩ : ∃ oD, h1.get? C = some oD ∧ oD.data = .cls cd := by
    unfold PySem.W.clsIn at hcdC
    split at hcdC
    · rename_i c d cd' sl ho
      cases hcdC
      exact ⟨_, X1 _ _ ho, rfl⟩
    · cases hcdC
  have G1 : h1.Ns mainGlobals mg := by obtain ⟨o, es, ep, e2, r⟩ := G; exact ⟨o, es, ep, k1 _ _ e2, r⟩
  have B1 : h1.Ns builtinsNs mb := by obtain ⟨o, es, ep, e2, r⟩ := Bn; exact ⟨o, es, ep, k1 _ _ e2, r⟩
  have I1 : PySem.W.InstAt h1 e (PySem.W.excObj C t none .none) C none := ⟨he1, rfl, rfl, trivial⟩
  have hneC : e ≠ C := PySem.W.ks_ne X1 I1 hcdC
  refine PySem.W.ks_loadName_global ekf ((ekd _).trans ET.ks) (Calls.loadGlobal_builtin (by rw [← henv]; exact G1) hsu (by rw [← henv]; exact B1) hbn ⟨rfl, ?_⟩)
  refine wpAny_loadName_free ekf ((ekd _).trans ET.kc) (c := cc) (by rw [← henv]; rfl) ⟨_, X1 _ _ lcc, rfl⟩ ?_
  rw [hself]
  refine wpAny_loadName_local ekf ((ekd _).trans (ET.loc _ (List.mem_cons_self ..))) hns kself ?_
  refine ks_wpAny_isType_cls hD1 hD2 ⟨rfl, ?_⟩
  refine ks_wpAny_call_super hD1 hD2 he1 rfl (fun c z => by cases z) (PySem.W.looks_mroIn X1 EK.own) (fun h2 so2 k2 => ?_)
  have X2 : K.In h2 := fun b o q => k2 b o (X1 b o q)
  have he2 := k2 _ _ he1
  have I2 : PySem.W.InstAt h2 e (PySem.W.excObj C t none .none) C none := ⟨he2, rfl, rfl, trivial⟩
  have hsup := EK.sup
  unfold PySem.W.ks_superIn at hsup
  rw [hcdC] at hsup
  refine PySem.W.kxs_getMethod XB.kf so2 (PySem.W.looks_opaque X2 EK.op) (l₀ := cd.mro) (fun A Q E s k q => wpAny_bind ((PySem.W.looks_clsIn X2 hcdC) A _ E s k (wpAny_pure q))) rfl X2 hsup (I2.type.andThen (PySem.W.looks_subIn X2 EK.sub)) hneC (by decide) ?_
  generalize hu : h2.objs.size = u
  have hu3 : (h2.push (PySem.W.kxs_mw initId e)).get? u = some (PySem.W.kxs_mw initId e) := by rw [← hu]; exact Heap.get?_push_at rfl rfl
  have k3 : ∀ b o, h2.get? b = some o → (h2.push (PySem.W.kxs_mw initId e)).get? b = some o := fun b o q => Heap.get?_push_of_some _ q
  refine PySem.W.kxs_callWith (i := initId) (x := e) rfl (Calls.evalArgs_plain (Calls.spliced_cons (Calls.Constant_str (k := j) (pos := p3) (Calls.spliced_nil ⟨hu3, ?_⟩))))
  obtain ⟨nm, N', qn, bs, bm, hdct, sn, sub, ab, col, dd, k0, k1', k2', k3', k5, hC, hT⟩ := PySem.W.excInit_of (X := (fun b o q => k3 b o (X2 b o q) : K.In (h2.push (PySem.W.kxs_mw initId e)))) EK.q
  refine wpAny_call (codeAny_of_tree ?_)
  show wpAny _ _ (callAny (.ref u) _) _ _ _
  simp only [callAny]
  refine wpAny_bind (wpAny_load hu3 ?_)
  simp only [PySem.W.kxs_mw, show (Value.type "method-wrapper" == Value.type "method" || Value.type "method-wrapper" == Value.type "builtin_function_or_method" || Value.type "method-wrapper" == Value.type "method-wrapper") = true by decide, if_true]
  refine PySem.W.KFB.if_so (by decide) ?_
  refine wpAny_bind (PySem.W.check_bound_init XB.fb.toExcCallFacts hC (k3 _ _ he2) rfl ?_)
  refine wpAny_bind (wpAny_pure (wpAny_pure ?_))
  refine ⟨plainId_quiet XB.fb.init.plain _, codeAny_builtin XB.fb.initEntry ?_⟩
  refine PySem.W.exc_init_tree (cls := .ref C) (t0 := t) (dv := none) (c2 := .none) (c3 := .none) (b4 := .bool false) (k3 _ _ he2) (by show 1 ≤ sizeLine; decide) fun h4 k4 e4 t4 => ?_
  have kk : ∀ b o, b ≠ e → h1.get? b = some o → h4.get? b = some o := fun b o hb q => k4 b o hb (k3 b o (k2 b o q))
  show PySem.wpAt _ _ _ (execs rest env) _ _ _
  refine PySem.wpAt_of_wpAny ?_
  have hst1 : ∀ (s5 : Shared), s5.heap = h4 → ExAt h1 C e (h2.push (PySem.W.kxs_mw initId e)).objs.size [] s5 := fun s5 z => ⟨fun b o hb q => by rw [z]; exact kk b o hb q, .inl ⟨rfl, by rw [z]; exact e4⟩⟩
  refine run_sts (h1 := h1) (K := K) (C := C) (e := e) (m := fun x => ((self :: ps).zip (Value.ref e :: us)).reverse.lookup x) (val := fun x => ((ps.zip vs).lookup x).getD .non) XB.sf EK.st ekf hns nL X1 Ke ⟨_, he1⟩ ((ekd _).trans (ET.loc _ (List.mem_cons_self ..))) kself ET.sd hst ht (fun f hf x hx => ?_) (by rw [List.length_nil, Nat.zero_add]; exact ET.len) (hst1 _ rfl) (fun h5 tk a => ?_)
  · have hxp := ET.flds f hf x hx
    obtain ⟨u', v', z1, z2, z3⟩ := key x hxp
    exact ⟨(ekd _).trans (ET.loc _ (List.mem_cons_of_mem _ hxp)), u', z1, by rw [z2]; exact z3⟩
  · refine h h5 tk (h2.push (PySem.W.kxs_mw initId e)).objs.size ⟨fun b o hb q => a.keep b o hb (k1 b o q), ?_⟩
    rcases a.at_ with z | ⟨dx, mA, z1, z2⟩
    · exact .inl z
    · refine .inr ⟨dx, mA, ?_, z2⟩
      cases q : s.heap.get? dx with
      | none => rfl
      | some o => rw [k1 dx o q] at z1; cases z1
end

/-! ### raise C(e, ..) -/
section
variable {X : Cx} {file : Str} {C fI : Addr} {params : Arguments} {body : List Stmt} {scope : Scope} {B newId initId : String} {bmB : List Value} {self : Str} {ps : List Str} {fs : List (Str × (Str ⊕ Str))} {x : Str} {p pos : Pos} {e : Expr} {es : List Expr} {ta : TA}
def xdV (ps : List Str) (fs : List (Str × (Str ⊕ Str))) (vs : List V) : List (Str × V) := fldV (fun x => ((ps.zip vs).lookup x).getD .non) fs []
theorem mk_exc {pins : List (Addr × Obj)} {σ : L2.St} {H1 : Hp} {s1 : Shared} {us : List Value} {vs : List V} {Q : XK} (XB : ExBase B newId initId bmB) (EK : ExK X.K file C fI params body scope B newId initId bmB) (ET : ExT body params scope self ps fs)
    (hfile : ((X.prog.main.file : Str) == file) = true) (htop : (X.prog.main.scope.names.lookup ("super" : Str)).isSome = false) (hsu : X.mg ("super" : Str) = none)
    (hbind : ∀ (e : Addr) (us : List Value), us.length = ps.length → ∀ (name qual : Str) (doc pm : Value) (an : Option Addr) (cda ct : Value) (cc : Addr), bindArgs (PySem.W.ksFn name qual params body scope .none .none doc pm an cda ct cc) ⟨.ref e :: us, []⟩ = pure ((self :: ps).zip (.ref e :: us)))
    (ht : ∀ f ∈ fs, PySem.W.takerIn X.K C f.1 = some none) (hne : ∀ vs, xdV ps fs vs ≠ []) (hr : Room 2 X.A) (I1 : Inv X pins σ H1 s1) (rv : Vals vs us) (hl : vs.length = ps.length) (hl2 : vs.length ≤ 1000) (q : ∀ d, H1 d = none → Q (.ref C) (some d) (upd H1 d (.xd (xdV ps fs vs)))) :
    wpAny (model X.prog X.w) X.A (call (.ref C) us) (L2N.MkP X pins σ Q) X.xe s1 := by
  obtain ⟨nm, N', qn, bs, bm, hdct, sn, sub, ab, col, dd, k0, k1, k2, k3, k5, hC, hT⟩ := PySem.W.excInit_of I1.kIn EK.q
  obtain ⟨hp, g, dr, tk, os⟩ := s1
  have hus : us.length ≤ sizeLine := by rw [← rv.length, sizeLine_eq]; omega
  obtain ⟨oI, hoI, hcI⟩ : ∃ oI, hp.get? fI = some oI ∧ oI.cls = .type "function" := by
    obtain ⟨o, ho, hc⟩ := Option.map_eq_some_iff.mp (show (X.K.lookup fI).map (·.cls) = some (.type "function") from EK.ff)
    exact ⟨o, I1.kIn _ _ ho, hc⟩
  refine wpAny_call (PySem.HandSPX.call_own XB.fb hT hC (PySem.W.looks_findIn I1.kIn EK.hi) (fun self => PySem.W.exc_bind hoI hcI self) hus ?_)
  have kk : ∀ b o, hp.get? b = some o → ((hp.push (PySem.W.kdv_tup us)).push (PySem.HandSPX.excO C hp.objs.size)).get? b = some o := fun b o e => Heap.get?_push_of_some _ (Heap.get?_push_of_some _ e)
  have hget : ((hp.push (PySem.W.kdv_tup us)).push (PySem.HandSPX.excO C hp.objs.size)).get? (hp.objs.size + 1) = some (PySem.W.excObj C hp.objs.size none .none) := by heap_get
  have lt : ∀ {b : Addr} {o : Obj}, hp.get? b = some o → b ≠ hp.objs.size + 1 := fun {b o} z => Nat.ne_of_lt (Nat.lt_succ_of_lt (Heap.lt_size z))
  have Ke : X.K.lookup (hp.objs.size + 1) = none := by
    cases z : X.K.lookup (hp.objs.size + 1) with
    | none => rfl
    | some o => exact absurd rfl (lt (I1.kIn _ _ z))
  generalize hh2 : (hp.push (PySem.W.kdv_tup us)).push (PySem.HandSPX.excO C hp.objs.size) = h2 at *
  have KM := I1.ok.mod
  obtain ⟨mb, nb, hbb⟩ := KM.blt
  have bk : ∀ b o, X.base.get? b = some o → h2.get? b = some o := fun b o z => kk b o (I1.bk b o z)
  have nsb : ∀ {b : Addr} {m : Str → Option Value}, X.base.Ns b m → h2.Ns b m := fun {b m} ⟨o, es, ep, e2, r⟩ => ⟨o, es, ep, bk _ _ e2, r⟩
  have lim : h2.NoLimit := by obtain ⟨mc, n1, n2⟩ := KM.nolimit; exact ⟨mc, nsb n1, n2⟩
  refine run_init (s := ⟨h2, g, dr, tk, os⟩) (self := self) (ps := ps) (fs := fs) (vs := vs) (mg := X.mg) (mb := mb) XB EK ET (fun b o z => bk b o (KM.kin b o z)) (nsb KM.glob) hsu (nsb nb) ((hbb _ (by decide)).trans PyProof.Rows.Boot.«super») lim hfile htop (hr.make C us []).depth hget Ke rv hl (hbind _ _ (by rw [← rv.length]; exact hl)) ht fun h' tk' t' a => ?_
  obtain ⟨ak, z | ⟨dx, mA, nd, hx, hn, rel⟩⟩ := a
  · exact absurd z.1 (hne vs)
  refine ⟨rfl, ?_⟩
  have nd1 : hp.get? dx = none := by
    cases z : hp.get? dx with
    | none => rfl
    | some o => rw [kk dx o z] at nd; cases nd
  have dne : dx ≠ hp.objs.size + 1 := fun z => by rw [z, hget] at nd; cases nd
  obtain ⟨G, g1, g2⟩ := restrict h' fun b => decide (b ≠ hp.objs.size + 1)
  have gk : ∀ b, b ≠ hp.objs.size + 1 → G.get? b = h'.get? b := fun b hb => g1 b (decide_eq_true hb)
  have ge : G.get? (hp.objs.size + 1) = none := g2 _ (by simp)
  have nH : H1 dx = none := I1.hok.gone nd1
  have J : Inv X pins σ (upd H1 dx (.xd (xdV ps fs vs))) ⟨G, g, dr, tk', os⟩ :=
    Inv.laidN (h' := G) (t' := tk') I1 (fun b o z => by rw [gk b (lt z)]; exact ak b o (lt z) (kk b o z)) nd1 nH ⟨mA, hn.at fun o y => (gk dx dne).trans y, rel⟩
  refine ⟨hp.objs.size + 1, _, _, ⟨G, g, dr, tk', os⟩, _, .ref C, some dx, rfl, J, fun b o z => ?_, ge, hx, ⟨rfl, rfl, fun vs z => by cases z; rfl⟩, rfl, rfl, ?_, rfl, J.bare, raises_own EK.exC EK.tyC, q dx nH⟩
  · by_cases hb : b = hp.objs.size + 1
    · rw [hb, ge] at z; cases z
    · exact (gk b hb).symm.trans z
  · rw [upd_ne (Ne.symm dne)]
    exact I1.hok.fresh (Nat.le_succ _)
end
end DL

set_option Elab.async false
set_option linter.all false
set_option maxRecDepth 100000
set_option autoImplicit false
set_option maxHeartbeats 2000000
namespace DL
open PySem PySem.Spec PyProof.Rows L2

/-! ### raise, over trees -/
section
variable {K : PySem.W.Frag} {G G1 : Hp} {so : So} {σ : L2.St} {H H1 : Hp} {sl s1 : DSt}
theorem Post.alloc {d : Addr} {o : HO} (p : Post K G so σ H sl H1 G1 s1) (n : H1 d = none) : Post K G so σ H sl (upd H1 d o) G1 s1 := by
  have pv : PostV K G1 so H1 .non (upd H1 d o) G1 (.d .non) := ⟨Ex.refl G1, p.rep.h.alloc n, fun _ _ e _ => Ex.new n _ _ e, fun _ _ g _ => g, .non, fun _ _ e => (nomatch e), fun _ e => (nomatch e)⟩
  exact p.trans (pv.slots p.rep).toPost
end
def fldD (val : Str → D) : List (Str × (Str ⊕ Str)) → List (Str × D) → List (Str × D)
  | [], acc => acc
  | (f, .inl m) :: r, acc => fldD val r ((f, .str m) :: acc)
  | (f, .inr x) :: r, acc => fldD val r ((f, val x) :: acc)
def xdD (ps : List Str) (fs : List (Str × (Str ⊕ Str))) (xs : List D) : List (Str × D) := fldD (fun x => ((ps.zip xs).lookup x).getD .non) fs []
theorem fld_all {K : PySem.W.Frag} {G : Hp} {val : Str → V} {vd : Str → D} (hv : ∀ x, DOk K G (val x) (vd x)) : ∀ (fs : List (Str × (Str ⊕ Str))) {a : List (Str × V)} {b : List (Str × D)}, FAll K G a b → FAll K G (fldV val fs a) (fldD vd fs b)
  | [], _, _, h => h
  | (f, .inl m) :: r, _, _, h => fld_all hv r (.cons (.str m) h)
  | (f, .inr x) :: r, _, _, h => fld_all hv r (.cons (hv x) h)
theorem zip_ok {K : PySem.W.Frag} {G : Hp} (x : Str) : ∀ {ps : List Str} {vs : List V} {xs : List D}, DAll K G vs xs → DOk K G (((ps.zip vs).lookup x).getD .non) (((ps.zip xs).lookup x).getD .non)
  | [], _, _, _ => .non
  | _ :: _, _, _, .nil => .non
  | p :: ps, _, _, .cons h t => by
    rw [List.zip_cons_cons, List.zip_cons_cons, List.lookup_cons, List.lookup_cons]
    cases x == p with
    | true => exact h
    | false => exact zip_ok x t
theorem xd_all {K : PySem.W.Frag} {G : Hp} {ps : List Str} {fs : List (Str × (Str ⊕ Str))} {vs : List V} {xs : List D} (h : DAll K G vs xs) : FAll K G (xdV ps fs vs) (xdD ps fs xs) := fld_all (fun x => zip_ok x h) fs .nil
/-- all that is known of an own exception's class -/
structure XCls (P : Program) (K : PySem.W.Frag) (mg : Str → Option Value) (C : Addr) (ps : List Str) (fs : List (Str × (Str ⊕ Str))) : Prop where
  how : ∃ file fI params body scope B newId initId bmB self, ExBase B newId initId bmB ∧ ExK K file C fI params body scope B newId initId bmB ∧ ExT body params scope self ps fs ∧ ((P.main.file : Str) == file) = true ∧ (P.main.scope.names.lookup ("super" : Str)).isSome = false ∧
    (∀ (e : Addr) (us : List Value), us.length = ps.length → ∀ (name qual : Str) (doc pm : Value) (an : Option Addr) (cda ct : Value) (cc : Addr), bindArgs (PySem.W.ksFn name qual params body scope .none .none doc pm an cda ct cc) ⟨.ref e :: us, []⟩ = pure ((self :: ps).zip (.ref e :: us)))
  ht : ∀ f ∈ fs, PySem.W.takerIn K C f.1 = some none
  ne : ∀ vs, xdV ps fs vs ≠ []
  su : mg ("super" : Str) = none
  kC : PySem.W.keepIn K (.ref C) = true
  ln : ps.length ≤ 1000
def dRaise (C : Addr) (ps : List Str) (fs : List (Str × (Str ⊕ Str))) (ta : TDA) : TDS := fun E sl => ta sl (fun ds s1 => match dats ds with
  | some xs => xs.length = ps.length ∧ E.xc (.ref C) (xdD ps fs xs) s1
  | none => False) E.xc
section
variable {X : Cx} {W : WX} {C : Addr} {ps : List Str} {fs : List (Str × (Str ⊕ Str))} {x : Str} {p pos rpos : Pos} {e : Expr} {es : List Expr} {ta : TDA} {tA : TA}
theorem XCls.make (T : XCls X.prog X.K X.mg C ps fs) (hr : Room 2 X.A) {pins : List (Addr × Obj)} {σ : L2.St} {H1 : Hp} {s1 : Shared} {us : List Value} {vs : List V} {Q : XK} (I1 : Inv X pins σ H1 s1) (rv : Vals vs us) (hl : vs.length = ps.length)
    (q : ∀ d, H1 d = none → Q (.ref C) (some d) (upd H1 d (.xd (xdV ps fs vs)))) : wpAny (model X.prog X.w) X.A (call (.ref C) us) (L2N.MkP X pins σ Q) X.xe s1 := by
  obtain ⟨file, fI, params, body, scope, B, n1, n2, bmB, self, z1, z2, z3, z4, z5, z6⟩ := T.how
  exact mk_exc z1 z2 z3 z4 z5 T.su z6 T.ht T.ne hr I1 rv hl (by rw [hl]; exact T.ln) q
def tMkX (C : Addr) (ps : List Str) (fs : List (Str × (Str ⊕ Str))) (tA : TA) : L2.St → Hp → XK → Prop := fun σ H Q => tA σ H fun vs H1 => vs.length = ps.length ∧ ∀ d, H1 d = none → Q (.ref C) (some d) (upd H1 d (.xd (xdV ps fs vs)))
theorem pmk_x (T : XCls X.prog X.K X.mg C ps fs) (hr : Room 2 X.A) (hg : Gl X x) (hm : X.mg x = some (.ref C)) (ha : PA X (e :: es) tA) (hdb : (x == ("__debug__" : Str)) = false := by decide) (he : starEach (e :: es) X.env = (false, eval e X.env) :: starEach es X.env := by rfl) (hpl : (backTo pos (starEach es X.env)).any (·.1) = false := by rfl) :
    L2N.PMk X (.Call (.Name x p) (e :: es) [] pos) (tMkX C ps fs tA) := by
  intro pins s σ H Q I h
  refine wpAny_Call_Name_kw (ld_glob I hg hm ?_ hdb)
  exact PySem.W.callWith_K (h₀ := X.base) I.ok.mod.kin T.kC (thn (ha.run pos pins s σ H _ I h) fun us s1 ⟨vs, H1, I1, r1, hl, q⟩ => ⟨I1.kIn, T.make hr I1 r1 hl q⟩) he hpl
theorem pmk_x0 (T : XCls X.prog X.K X.mg C ps fs) (hr : Room 2 X.A) (hg : Gl X x) (hm : X.mg x = some (.ref C)) (hdb : (x == ("__debug__" : Str)) = false := by decide) :
    L2N.PMk X (.Call (.Name x p) [] [] pos) (tMkX C ps fs tNil) := by
  intro pins s σ H Q I h
  refine wpAny_Call_Name_kw (ld_glob I hg hm ?_ hdb)
  exact PySem.W.callWith_K0 I.kIn T.kC (T.make hr I .nil h.1 h.2)
theorem up_raise {K : PySem.W.Frag} {D : Ends} {σ : L2.St} {H : Hp} (h : upS K W (dRaise C ps fs ta) D σ H) : tMkX C ps fs (upA K W ta) σ H fun cls d H' => W cls d σ H' := by
  obtain ⟨G, so, sl, E, rep, q, ok⟩ := h
  refine ⟨G, so, sl, _, E.xc, rep, q, fun vs H1 G1 ds s1 p w q1 => ?_, ok.xc.ex⟩
  split at q1
  · rename_i xs ed
    have al := dats_all w ed
    refine ⟨al.length.trans q1.1, fun d nd => ?_⟩
    exact ok.xc (.ref C) (some d) σ _ G1 _ s1 (p.alloc nd).s ⟨_, upd_same, xd_all al⟩ q1.2
  · exact q1.elim
theorem ds_raise (hc : X.calm = true) (tk : L2N.Takes X W) (T : XCls X.prog X.K X.mg C ps fs) (hr : Room 2 X.A) (hg : Gl X x) (hm : X.mg x = some (.ref C)) (ha : DA X W (e :: es) ta) (hdb : (x == ("__debug__" : Str)) = false := by decide) (he : starEach (e :: es) X.env = (false, eval e X.env) :: starEach es X.env := by rfl) (hpl : (backTo pos (starEach es X.env)).any (·.1) = false := by rfl) :
    DS X W (.Raise (some (.Call (.Name x p) (e :: es) [] pos)) none rpos) (dRaise C ps fs ta) := ps_imp (L2N.ps_raise hc tk (pmk_x T hr hg hm ha hdb he hpl)) fun D σ H h => up_raise h
theorem ds_raise0 (hc : X.calm = true) (tk : L2N.Takes X W) (T : XCls X.prog X.K X.mg C ps fs) (hr : Room 2 X.A) (hg : Gl X x) (hm : X.mg x = some (.ref C)) (hdb : (x == ("__debug__" : Str)) = false := by decide) :
    DS X W (.Raise (some (.Call (.Name x p) [] [] pos)) none rpos) (dRaise C ps fs dNil) := ps_imp (L2N.ps_raise hc tk (pmk_x0 T hr hg hm hdb)) fun D' σ H h => by
  obtain ⟨G, so, sl, E, rep, q, ok⟩ := h
  obtain ⟨q1, q2⟩ : ([] : List D).length = ps.length ∧ E.xc (.ref C) (xdD ps fs []) sl := q
  exact ⟨q1, fun d nd => ok.xc (.ref C) (some d) σ _ G _ sl ((Post.refl rep).alloc nd).s ⟨_, upd_same, xd_all .nil⟩ q2⟩
end
end DL

set_option Elab.async false
set_option linter.all false
set_option maxRecDepth 100000
set_option autoImplicit false
set_option maxHeartbeats 2000000
namespace DL
open PySem PySem.Spec PyProof.Rows L2

/-! ### try: .. except (A, B, C) as n: .. -/
theorem fly_kept {B h h' : Heap} {l : List Env} {a : Addr} {Z : Obj → Prop} (k : ∀ b o, h.get? b = some o → h'.get? b = some o) (f : HandSPX.FlyingZ B l a Z h) : HandSPX.FlyingZ B l a Z h' := by
  obtain ⟨f1, f2, f3, oe, vs, T, oT, ts, e1, e2, e3, e4, e5, e6, e7, e8⟩ := f
  exact ⟨fun b o q => k b o (f1 b o q), f2, Heap.FunFrames.of_keeps (fun b o q _ => ⟨o, k b o q, rfl⟩) f3, oe, vs, T, oT, ts, k _ _ e1, e2, e3, e4, e5, e6, k _ _ e7, e8⟩
def wAs3 (K : PySem.W.Frag) (cs : List Value) (i : Nat) (ts : Addr → Value → Option Addr → TS) (Wout : WX) (D : Ends) : WX := fun cls d σ H =>
  ∃ b, PySem.W.exmAny K cls cs = some b ∧ (b = true → ∀ a, H a = none → ts a cls d { nx := fun σ' H' => D.nx (σ'.set i none) H', rt := D.rt, bk := fun σ' H' => D.bk (σ'.set i none) H', ct := fun σ' H' => D.ct (σ'.set i none) H' } (σ.set i (some (.ref a))) H) ∧ (b = false → Wout cls d σ H)
section
variable {X : Cx} {x1 x2 x3 n : Str} {c1 c2 c3 : Value} {i k : Nat} {body suite : List Stmt} {b0 : Stmt} {q1 q2 q3 tp pos pos' : Pos} {tb : WX → TS} {ts : Addr → Value → Option Addr → TS} {Wout : WX}
/-- the clause's tuple is laid -/
theorem names3 {Y : Cx} {pins : List (Addr × Obj)} {σ : L2.St} {H : Hp} {s : Shared} {Q E : Value → Shared → Prop} (S : Inv Y pins σ H s) (h1 : Names Y x1 c1) (h2 : Names Y x2 c2) (h3 : Names Y x3 c3)
    (q : Q (.ref s.heap.objs.size) { s with heap := s.heap.push { cls := .type "tuple", data := .seq [c1, c2, c3].toArray } }) :
    wpAny (model Y.prog Y.w) Y.A (eval (.Tuple [.Name x1 q1, .Name x2 q2, .Name x3 q3] k tp) Y.env) Q E s := by
  have one : ∀ {x : Str} {c : Value} {p : Pos} {R : Value → Shared → Prop}, Names Y x c → R c s → wpAny (model Y.prog Y.w) Y.A (eval (.Name x p) Y.env) R E s := fun {x c p R} hx r => by
    obtain ⟨hg, hd, hm | ⟨hm, hv, hn⟩⟩ := hx
    · exact ld_glob S hg hm r hd
    · exact ld_blt S hg hm hv r hn hd
  refine wpAny_Tuple_spliced ?_
  refine Calls.spliced_cons (one h1 (Calls.spliced_cons (one h2 (Calls.spliced_cons (one h3 (Calls.spliced_nil ?_))))))
  exact ⟨by show 3 ≤ sizeLine; decide, q⟩
theorem ps_try_as3 (hs : X.stack = X.env :: X.outer) (hf : X.env.frame = some X.env.locals) (hN : X.N.Nodup) (hi : X.N[i]? = some n) (hln : X.env.kindOf n = some .local) (h1 : Names X x1 c1) (h2 : Names X x2 c2) (h3 : Names X x3 c3) (tk : L2N.Takes X Wout)
    (hb : ∀ (W : WX) (pn : List (Addr × Obj)) (xe : Value → Shared → Prop), L2N.Takes (X.tr pn xe) W → PassesOwn (model X.prog X.w) X.A X.env xe → PSs (X.tr pn xe) body (tb W))
    (hsu : ∀ (a : Addr) (oe : Obj) (cls : Value) (d : Option Addr) (pn : List (Addr × Obj)), L2N.Zn cls d oe → (∃ vs, oe.data = .fields vs) → PSs (X.suite a ((a, oe) :: pn)) (b0 :: suite) (ts a cls d)) :
    PS X (.Try body [.ExceptHandler (some (.Tuple [.Name x1 q1, .Name x2 q2, .Name x3 q3] k tp)) (some n) (b0 :: suite) pos'] [] [] pos) (fun D σ H => tb (wAs3 X.K [c1, c2, c3] i ts Wout D) D σ H) := by
  refine ⟨fun pins s σ H D I h => ?_⟩
  have Xok := I.ok
  have frm : X.A.frames = some (X.env :: X.outer) := by rw [Xok.frames, hs]
  refine wpAny_Try_except ?_
  let M := model X.prog X.w
  let hd : ExceptHandler := .ExceptHandler (some (.Tuple [.Name x1 q1, .Name x2 q2, .Name x3 q3] k tp)) (some n) (b0 :: suite) pos'
  let XH : Value → Shared → Prop := fun e s1 => wpAny M X.A (noteFrame e X.env) (fun _ s2 => wpAny M X.A (setFlight e none) (fun _ s3 => wpAny M X.A (handleBy e X.env [hd]) (SP X pins D) X.xe s3) X.xe s2) X.xe s1
  have catches : L2N.Takes (X.tr (X.pn ++ pins) XH) (wAs3 X.K [c1, c2, c3] i ts Wout D) := fun u s' xx => by
    obtain ⟨a, B, sI, pins', σ', H', cls, d, rfl, J', nb, up, sky, na, os, ag, b, hb1, yes, no⟩ := xx
    have J : Inv X pins σ' H' sI := J'.ofTry Xok
    have sky2 : Sky B (X.env :: X.outer) a (L2N.Zn cls d) X.env.locals s'.heap := by rw [← hs]; exact sky
    show wpAny M X.A (noteFrame (.ref a) X.env) _ _ _
    refine L2N.Sky.land L2N.Zn.steady frm hf sky2 fun g3 fl3 up3 => ?_
    have notfr : a ∉ frs (X.env :: X.outer) := fun hm => by
      obtain ⟨oe, vs, e1, _, e3⟩ := fl3.there
      obtain ⟨_, o', e', nf⟩ := fl3.2.2.1.mem hm
      have z := e1.symm.trans e'
      cases z
      exact nf _ e3
    have nL : a ≠ X.env.locals := fun z => notfr (List.mem_filterMap.mpr ⟨X.env, List.mem_cons_self, by rw [hf, z]⟩)
    have nF : a ∉ X.fs := fun hm => by
      obtain ⟨v, hv, q⟩ := List.mem_filterMap.mp hm
      exact notfr (List.mem_filterMap.mpr ⟨v, List.mem_cons_of_mem _ hv, q⟩)
    refine wpAny_handleBy_cons (codeAny_handlers_test ?_) (by intro q; cases q)
    have J3 : Inv X pins σ' H' { s' with heap := g3 } := J.landed nb fl3.1 (up.trans up3) os ag
    obtain ⟨oe3, vs3, e3, z3, d3⟩ := fl3.there
    have S3 := J3.suite e3 d3 na nL nF
    refine names3 (Y := X.suite a ((a, oe3) :: (X.pn ++ pins))) S3 h1 h2 h3 ?_
    let g4 := g3.push { cls := .type "tuple", data := .seq [c1, c2, c3].toArray }
    have k4 : ∀ b o, g3.get? b = some o → g4.get? b = some o := fun b o q => Heap.get?_push_of_some _ q
    have fl4 := fly_kept k4 fl3
    have up4 : g3.UpToSlots g4 := Heap.UpToSlots.of_keeps k4
    have LT : PySem.W.Looks M g4 (typeOf (.ref a)) cls := fun A Q E s k q => wpAny_typeOf_ref (k _ _ (k4 _ _ e3)) (by rw [z3.1]; exact q)
    have LM : PySem.W.Looks M g4 (excMatches (.ref a) (.ref g3.objs.size)) b := PySem.W.exm_tup3 (K := X.K) (fun b o q => k4 b o (J3.kIn b o q)) LT (Heap.get?_push_at rfl rfl) hb1
    refine LM.here (s := { s' with heap := g4 }) ?_
    cases b with
    | true =>
      refine codeAny_handlers_suite_as ?_
      refine HandSPX.lands_againZ fl4 fun g5 fl5 up5 => ?_
      have J5 : Inv X pins σ' H' { s' with heap := g5 } := J.landed nb fl5.1 (((up.trans up3).trans up4).trans up5) os ag
      obtain ⟨oe5, vs5, e5, z5, d5⟩ := fl5.there
      have S5 := J5.suite e5 d5 na nL nF
      refine store_ok (X := X.suite a ((a, oe5) :: (X.pn ++ pins))) (v := .ref a) S5 hN hi (.inl hln) rfl (fun s6 S6 => ?_) (.inr hln)
      refine wpAny_mono ((hsu a oe5 cls d (X.pn ++ pins) z5 ⟨_, d5⟩).run [] s6 _ H' _ S6 (yes rfl a na)) (fun f s7 r7 => ?_) (fun _ _ z => False.elim z)
      have leave : ∀ {σ7 : L2.St} {H7 : Hp} {Q : Shared → Prop}, Inv (X.suite a ((a, oe5) :: (X.pn ++ pins))) [] σ7 H7 s7 → (∀ s8, Inv X pins (σ7.set i none) H7 s8 → Q s8) →
          wpAny M X.A (do bindName X.env n .none; unbindBehindTheSuite X.env n pos') (fun _ s8 => Q s8) X.xe s7 := fun S q => gone_ok (S.unsuite Xok) hN hi hln q
      cases f with
      | next => obtain ⟨σ7, H7, S7, y⟩ := r7; exact leave S7 fun s8 J8 => ⟨_, _, J8, y⟩
      | brk => obtain ⟨σ7, H7, S7, y⟩ := r7; exact leave S7 fun s8 J8 => ⟨_, _, J8, y⟩
      | cont => obtain ⟨σ7, H7, S7, y⟩ := r7; exact leave S7 fun s8 J8 => ⟨_, _, J8, y⟩
      | ret u => obtain ⟨v7, σ7, H7, S7, r, y⟩ := r7; exact leave S7 fun s8 J8 => ⟨_, _, _, J8, r, y⟩
    | false =>
      show wpAny M X.A (handleBy (.ref a) X.env []) _ _ _
      refine wpAny_handleBy_nil ?_
      obtain ⟨_, _, _, oe, vs, T, oT, ts', e1, _, e2, e6, _⟩ := id fl4
      unfold PySem.passOn
      refine wpAny_bind (wpAny_field e1 e2 e6 ?_)
      rw [if_neg (show ¬ ((Value.ref T == Value.none) = true) from by simp)]
      have fin : wpAny M X.A (setFlight (.ref a) X.env.frame) (fun _ s4 => wpAny M X.A (throw (.ref a) : Sem Flow) (SP X pins D) X.xe s4) X.xe { s' with heap := g4 } := by
        rw [hf]
        refine HandSPX.setFlight_upZ fl4 fun g5 hh5 up5 => wpAny_throw (tk _ _ ?_)
        exact ⟨a, B, sI, pins, σ', H', cls, d, rfl, J, nb, ((up.trans up3).trans up4).trans up5, .inr (.inr (by rw [hs]; exact hh5)), na, os, ag, no rfl⟩
      first
        | exact wpAny_bind (wpAny_pure (wpAny_bind fin))
        | exact wpAny_bind fin
  refine wpAny_mono ((hb _ (X.pn ++ pins) XH catches PassesOwn.looking).run [] s σ H D (I.toTry _) h) (fun f s1 r1 => ?_) (fun e s1 he => he)
  cases f with
  | next => obtain ⟨σ', H', J', q⟩ := r1; exact wpAny_execs_nil ⟨σ', H', J'.ofTry Xok, q⟩
  | brk => obtain ⟨σ', H', J', q⟩ := r1; exact ⟨σ', H', J'.ofTry Xok, q⟩
  | cont => obtain ⟨σ', H', J', q⟩ := r1; exact ⟨σ', H', J'.ofTry Xok, q⟩
  | ret u => obtain ⟨v, σ', H', J', r, q⟩ := r1; exact ⟨v, σ', H', J'.ofTry Xok, r, q⟩
end
end DL

set_option Elab.async false
set_option linter.all false
set_option maxRecDepth 100000
set_option autoImplicit false
set_option maxHeartbeats 2000000
namespace DL
open PySem PySem.Spec PyProof.Rows L2

/-! ### a lambda without parameters, or with parameters that all have a default, is made -/
/-- the table has grown by the code object at c', or it was there -/
def Grown (H H1 : Hp) (P c' : Addr) (q : Str) (ps : Array Value) : Prop := H1 = H ∨ (H c' = none ∧ ∃ l k : Nat, H1 = upd (upd H P (.tbl (ps ++ #[rawInt l, rawInt k, .ref c']))) c' (LamX.CodeO c' q))
abbrev lamO (X : Cx) (params : Arguments) (body : Expr) (scope : Scope) (dV doc pm : Value) (c' : Addr) (ctv : Value) : Obj :=
  PySem.W.kdv_obj "<lambda>" (X.env.qual ++ "<lambda>") params (.expr body) scope (cloFrom X.env.cells scope.names []) dV doc pm c' ctv
section
variable {X : Cx} {pins : List (Addr × Obj)} {σ : L2.St} {H : Hp} {s : Shared} {c P : Addr} {ps : Array Value} {params : Arguments} {body : Expr} {scope : Scope} {pos : Pos} {Q E : Value → Shared → Prop}
theorem not_frame (I : Inv X pins σ H s) {f : Addr} (hf : s.heap.objs.size ≤ f) : f ∉ frs X.stack := fun z => by
  rcases List.mem_cons.mp (I.stkSub _ z) with e | e
  · have h1 := I.lt
    rw [← e] at h1
    exact Nat.lt_irrefl _ (Nat.lt_of_lt_of_le h1 hf)
  · exact I.nofs hf e
theorem lam_tail {dV : Value} {ln : Nat} (I : Inv X pins σ H s) (TB : LamX.TabB X.base X.mg c P) (hcode : X.env.code = .ref c) (hP : H P = some (.tbl ps)) (ht : TriplesOk ps.toList)
    (ha : ∀ (pos : Pos) (cv : Value), codeAmong pos ps.toList = some cv → ∃ c', cv = .ref c' ∧ H c' = some (LamX.CodeO c' (X.env.qual ++ "<lambda>"))) (hfree : ∀ y ∈ scope.names, y.2 = .free → ∃ c, X.env.cells.lookup y.1 = some c)
    (h : ∀ (f c' : Addr) (doc pm ctv : Value) (H1 : Hp) (s' : Shared), Inv X pins σ H1 s' → Grown H H1 P c' (X.env.qual ++ "<lambda>") ps → s'.heap.get? f = some (lamO X params body scope dV doc pm c' ctv) → H1 f = none → f ∉ frs X.stack → H1 c' = some (LamX.CodeO c' (X.env.qual ++ "<lambda>")) →
      (∀ b o, b ≠ P → s.heap.get? b = some o → s'.heap.get? b = some o) → (∀ b, s.heap.objs.size ≤ b → b < f → H1 b = none ∨ b = c') → Q (.ref f) s') :
    wpAny (model X.prog X.w) X.A (makeTail "<lambda>" (X.env.qual ++ "<lambda>") params (.expr body) scope X.env dV .none none pos ln) Q E s := by
  have bP : s.heap.BuiltinsAt X.mg P := TB.bm.keeps I.bk
  have tP : s.heap.get? P = some { cls := .none, data := .fields ps } := I.hok P _ hP
  cases hc : codeAmong pos ps.toList with
  | none =>
    refine PySem.W.kdv_makeTail (mg := X.mg) (c := c) (P := P) (ps := ps) (closure_ok hfree) I.ok.glob (I.mod.glob.keeps I.bk) hcode (TB.code.keeps I.bk) tP ht hc TB.gP bP fun c' ctv doc g tk ext ge lt rec tab => ?_
    obtain ⟨c2, oc, cv, t, rfl', o1, o2, o3⟩ := rec
    cases rfl'
    have nC : H c' = none := I.hok.fresh ge
    have J := LamX.inv_table (t' := tk) (q := X.env.qual ++ "<lambda>") (more := #[rawInt pos.line, rawInt pos.col, .ref c']) (h' := g.push (lamO X params body scope dV doc ((X.mg "__name__").getD .none) c' ctv)) I hP
      (fun b o hb e => Heap.get?_push_of_some _ (ext b o hb e)) (Heap.get?_push_of_some _ tab) ge ⟨oc, cv, t, Heap.get?_push_of_some _ o1, o2, o3⟩
    have sz : s.heap.objs.size ≤ g.objs.size := Nat.le_trans ge (Nat.le_of_lt lt)
    have fr : ∀ b, s.heap.objs.size ≤ b → b ≠ c' → upd (upd H P (.tbl (ps ++ #[rawInt pos.line, rawInt pos.col, .ref c']))) c' (LamX.CodeO c' (X.env.qual ++ "<lambda>")) b = none := fun b hb nb => by
      have nbP : b ≠ P := fun z => by subst z; exact absurd (Heap.lt_size tP) (Nat.not_lt.mpr hb)
      rw [upd_ne nb, upd_ne nbP]
      exact I.hok.fresh hb
    refine h g.objs.size c' doc _ ctv _ _ J (.inr ⟨nC, _, _, rfl⟩) (Heap.get?_push_size _ rfl) (fr _ sz (Nat.ne_of_gt lt)) (not_frame I sz) upd_same (fun b o hb e => Heap.get?_push_of_some _ (ext b o hb e)) fun b h1 h2 => ?_
    by_cases z : b = c'
    · exact .inr z
    · exact .inl (fr b h1 z)
  | some cv =>
    obtain ⟨c', rfl, hco⟩ := ha pos cv hc
    refine PySem.W.kdv_makeTailHit (mg := X.mg) (c := c) (P := P) (ps := ps) (closure_ok hfree) I.ok.glob (I.mod.glob.keeps I.bk) hcode (TB.code.keeps I.bk) tP ht hc bP fun ctv doc g tk ext sz => ?_
    have J : Inv X pins σ H { s with heap := g.push (lamO X params body scope dV doc ((X.mg "__name__").getD .none) c' ctv), toks := tk } := I.kept fun b o e => Heap.get?_push_of_some _ (ext b o e)
    exact h g.objs.size c' doc _ ctv H _ J (.inl rfl) (Heap.get?_push_size _ rfl) (I.hok.fresh sz) (not_frame I sz) hco (fun b o _ e => Heap.get?_push_of_some _ (ext b o e)) fun b h1 _ => .inl (I.hok.fresh h1)
/-- how the parameters are bound at a call without arguments -/
inductive LamPar : Arguments → List Str → Prop
  | none {params : Arguments} (h1 : params.defaults = []) (h2 : params.kw_defaults = [])
      (hb : ∀ (q : Str) (body : Expr) (scope : Scope) (cl : List (Str × Addr)) (doc pm cv ctv : Value), bindArgs (PySem.W.kdv_fn "<lambda>" q params (.expr body) scope cl .none doc pm cv ctv) ⟨[], []⟩ = pure []) : LamPar params []
  | one {params : Arguments} {x : Str} {i : Int} {j : Nat} {p : Pos} (h1 : params.defaults = [.Constant (.int i) j p]) (h2 : params.kw_defaults = [])
      (hb : ∀ (q : Str) (body : Expr) (scope : Scope) (cl : List (Str × Addr)) (dV doc pm cv ctv v : Value), ∃ k, bindArgs (PySem.W.kdv_fn "<lambda>" q params (.expr body) scope cl dV doc pm cv ctv) ⟨[], []⟩ = seqItems? dV >>= k ∧ k (some #[v]) = pure [(x, v)]) : LamPar params [x]
/-- the lambda's function object in a heap, ready to be called -/
def LamAt (X : Cx) (params : Arguments) (body : Expr) (scope : Scope) (f c' : Addr) (H : Hp) (s : Shared) : Prop := ∃ dV doc pm ctv, s.heap.get? f = some (lamO X params body scope dV doc pm c' ctv) ∧ H f = none ∧ f ∉ frs X.stack ∧
  ((params.defaults = [] ∧ dV = .none) ∨ ∃ T i t, dV = .ref T ∧ s.heap.get? T = some (PySem.W.kdv_tup [.int i t]) ∧ H T = none ∧ T ∉ frs X.stack ∧ params.defaults ≠ [])
theorem lam_eval {xs : List Str} (hp : LamPar params xs) (I : Inv X pins σ H s) (TB : LamX.TabB X.base X.mg c P) (hcode : X.env.code = .ref c) (hP : H P = some (.tbl ps)) (ht : TriplesOk ps.toList)
    (ha : ∀ (pos : Pos) (cv : Value), codeAmong pos ps.toList = some cv → ∃ c', cv = .ref c' ∧ H c' = some (LamX.CodeO c' (X.env.qual ++ "<lambda>"))) (hfree : ∀ y ∈ scope.names, y.2 = .free → ∃ c, X.env.cells.lookup y.1 = some c)
    (h : ∀ (f c' : Addr) (H1 : Hp) (s' : Shared), Inv X pins σ H1 s' → Grown H H1 P c' (X.env.qual ++ "<lambda>") ps → LamAt X params body scope f c' H1 s' → H1 c' = some (LamX.CodeO c' (X.env.qual ++ "<lambda>")) → Q (.ref f) s') :
    wpAny (model X.prog X.w) X.A (eval (.Lambda params body scope pos) X.env) Q E s := by
  cases hp with
  | none h1 h2 hb =>
    have hdef : defaultsOf params X.env = ([], []) := by
      obtain ⟨a1, a2, a3, a4, a5, a6, a7⟩ := params
      cases h1; cases h2
      rfl
    refine PySem.W.kla_eval hdef ?_
    rw [makeFunction_eq]
    simp only [List.zip_nil_right, List.filterMap_nil, List.isEmpty_nil, if_true, pure_bind]
    exact lam_tail I TB hcode hP ht ha hfree fun f c' doc pm ctv H1 s' J g o n nf hc k _ => h f c' H1 s' J g ⟨_, _, _, _, o, n, nf, .inl ⟨h1, rfl⟩⟩ hc
  | @one x i j p h1 h2 hb =>
    refine PySem.W.kdv_lam (by rw [h1]; rfl) h2 ?_
    rw [h1]
    refine PySem.W.kdv_all1 (wpAny_Constant_int (PySem.W.kdv_all0 ?_))
    rw [makeFunction_eq]
    simp only [List.zip_nil_right, List.filterMap_nil, List.isEmpty_nil, if_true, pure_bind, List.isEmpty_cons, Bool.false_eq_true, if_false]
    refine wpAny_bind (wpAny_newTextTuple ?_)
    have I2 : Inv X pins σ H { s with heap := s.heap.push (PySem.W.kdv_tup [.int i s.toks]), toks := s.toks + 1 } := I.kept fun b o e => Heap.get?_push_of_some _ e
    refine lam_tail I2 TB hcode hP ht ha hfree fun f c' doc pm ctv H1 s' J g o n nf hc k fr => ?_
    have tT : s.heap.objs.size ≠ P := fun z => Nat.lt_irrefl _ (Nat.lt_of_lt_of_le (Heap.lt_size (I.hok P _ hP)) (Nat.le_of_eq z))
    have sT : (s.heap.push (PySem.W.kdv_tup [.int i s.toks])).get? s.heap.objs.size = some (PySem.W.kdv_tup [.int i s.toks]) := Heap.get?_push_size _ rfl
    refine h f c' H1 s' J g ⟨_, _, _, _, o, n, nf, .inr ⟨s.heap.objs.size, i, s.toks, rfl, k _ _ tT sT, ?_, not_frame I (Nat.le_refl _), by rw [h1]; simp⟩⟩ hc
    rcases g with rfl | ⟨z, l, k', rfl⟩
    · exact I.hok.fresh (Nat.le_refl _)
    · have nc : s.heap.objs.size ≠ c' := fun y => by
        subst y
        have w := J.hok _ _ hc
        obtain ⟨⟨oc, vs, t, e1, e2, _⟩, _⟩ := w
        have e3 := k _ _ tT sT
        rw [e1] at e3
        cases e3
        cases e2
      rw [upd_ne nc, upd_ne tT]
      exact I.hok.fresh (Nat.le_refl _)
end
end DL

set_option Elab.async false
set_option linter.all false
set_option maxRecDepth 100000
set_option autoImplicit false
set_option maxHeartbeats 2000000
namespace DL
open PySem PySem.Spec PyProof.Rows L2

/-! ### the lambda's body, its names those of the maker -/
structure LamN (N : List Str) (sc scope : Scope) (xs : List Str) : Prop where
  kind : scope.kind = .function
  co : scope.isCoroutine = false
  gen : scope.isGenerator = false
  own : ∀ y ∈ scope.names, y.2 ≠ .cell ∧ (y.2 = .local → y.1 ∉ N)
  free : ∀ y ∈ scope.names, y.2 = .free → sc.names.lookup y.1 = some .cell ∨ sc.names.lookup y.1 = some .free
  par : ∀ a ∈ xs, scope.names.lookup a = some .local
def lamC (X : Cx) (A : Around) (outer : List Env) (s : Shared) (H : Hp) (E : XK) (scope : Scope) (f c' : Addr) : Cx :=
  { LamX.lamCx X A outer s H E scope f c' with
    xe := fun e s' => wpAny (model X.prog X.w) (A.deeper (LamX.lamEnv X scope s.heap.objs.size f c')) (leaving (LamX.lamEnv X scope s.heap.objs.size f c') e) (fun _ s'' => L2N.CX X.prog X.w outer H s E e s'') (fun e' s'' => L2N.CX X.prog X.w outer H s E e' s'') s' }
section
variable {X : Cx} {pins : List (Addr × Obj)} {σ : L2.St} {H HZ : Hp} {s s1 : Shared} {params : Arguments} {xs : List Str}
theorem LamN.has {scope : Scope} (L : LamN X.N X.env.scope scope xs) (ok : X.Ok) : ∀ y ∈ scope.names, y.2 = .free → ∃ c, X.env.cells.lookup y.1 = some c := fun y hy e => by
  rcases L.free y hy e with k | k
  · exact ok.has _ (.inl k)
  · exact ok.has _ (.inr k)
theorem lam_start {A : Around} {outer : List Env} {E : XK} {scope : Scope} {f c' : Addr} {h1 : Heap} {tk : Nat} {m : Str → Option Value} (I : Inv X pins σ H s) (L : LamN X.N X.env.scope scope xs) (e0 : Env0 X.prog X.w X.K X.mg X.base A outer s1 HZ) (hd : A.handled = none)
    (un : Un (frs X.stack) [] H HZ s.heap s1.heap) (hns : h1.Ns s1.heap.objs.size m) (kp : ∀ b o, s1.heap.get? b = some o → h1.get? b = some o) :
    Inv (lamC X A outer s1 HZ E scope f c') [] σ HZ { s1 with heap := h1, toks := tk } := by
  have hfree := L.has I.ok
  have back : ∀ {y : Str} {d : Addr}, (cloFrom X.env.cells scope.names []).lookup y = some d → X.env.cells.lookup y = some d := fun {y d} e => by
    rcases cloFrom_mem (PySem.mem_of_lookup e) with hm | ⟨z1, z2⟩
    · cases hm
    · obtain ⟨d1, hc⟩ := hfree _ z1 rfl
      have hc' : X.env.cells.lookup y = some d1 := hc
      have e2 : d = d1 := by rw [z2, hc'] <;> rfl
      rw [e2]; exact hc'
  have forth : ∀ {y : Str}, scope.names.lookup y = some .free → ∃ d, (cloFrom X.env.cells scope.names []).lookup y = some d := fun {y} hl =>
    mem_lookup (cloFrom_has (cells := X.env.cells) (acc := []) (PySem.mem_of_lookup hl : (y, NameKind.free) ∈ scope.names))
  have cellK : ∀ {d : Addr} {v : Option Value}, H d = none → s.heap.IsCell d v → h1.IsCell d v := fun {d v} n ⟨o, ho, hdt⟩ => by
    obtain ⟨sl, q⟩ := un.any ho n (by simp)
    exact ⟨_, kp _ _ q, hdt⟩
  have noX : ∀ b : Addr, b ∉ (lamC X A outer s1 HZ E scope f c').ex := fun b z => absurd (show b ∈ ([] : List Addr) from z) (by simp)
  have OK : (lamC X A outer s1 HZ E scope f c').Ok := ⟨e0.mod, L.kind, rfl, rfl, Nat.le_refl _, fun y z c e1 e2 => I.ok.inj y z c (back e1) (back e2), fun y hy => by
      have hy' : scope.names.lookup y = some .cell ∨ scope.names.lookup y = some .free := hy
      rcases hy' with hy' | hy'
      · exact absurd rfl (L.own _ (PySem.mem_of_lookup hy')).1
      · exact forth hy',
    fun y c z _ => (Bool.noConfusion (show false = true from z)), fun _ => hd, Around.frames_deeper e0.frames, .inr ⟨rfl, rfl⟩, fun b z => absurd z (noX b), e0.bs, e0.bsz, fun b _ _ => noX b, fun b z => absurd z (noX b), e0.funs, e0.frf⟩
  refine ⟨OK, rfl, e0.bare, Un.kept kp, ⟨m, hns, fun i y v e1 e2 e3 => ?_⟩, fun y c e => ?_, e0.hok.fresh (Nat.le_refl _), fun y c e => ?_, fun q hq => absurd (show q ∈ ([] : List (Addr × Obj)) ++ [] from hq) (by simp), e0.hok.kept kp, I.len⟩
  · have vis : Vis scope y := e3
    have iN : y ∈ X.N := List.mem_of_getElem? e1
    rcases vis with k | k | k
    · exact absurd iN ((L.own _ (PySem.mem_of_lookup k)).2 rfl)
    · exact absurd rfl (L.own _ (PySem.mem_of_lookup k)).1
    · obtain ⟨m0, hn0, hl⟩ := I.loc
      have src := L.free _ (PySem.mem_of_lookup k) rfl
      obtain ⟨u, r, q⟩ := hl i y v e1 e2 (src.elim (fun z => .inr (.inl z)) fun z => .inr (.inr z))
      obtain ⟨d, hd2⟩ := forth k
      refine ⟨u, r, .inr ⟨.inr k, d, hd2, ?_⟩⟩
      have hb := back hd2
      rcases q with ⟨k', _⟩ | ⟨_, d3, e', z⟩
      · have k'' : X.env.scope.names.lookup y = some .local := k'
        rcases src with k2 | k2 <;> rw [show X.env.scope.names.lookup y = _ from k2] at k'' <;> cases k''
      · rw [hb] at e'; cases e'
        exact cellK (I.freeC y _ hb) z
  · obtain ⟨u, z⟩ := I.cell y c (back e)
    exact ⟨u, cellK (I.freeC y c (back e)) z⟩
  · obtain ⟨v, o, ho, hdt⟩ := I.cell y c (back e)
    exact un.free c o ho (I.freeC y c (back e)) (by simp)
/-- the context of the def that got the lambda -/
abbrev gotC (X : Cx) (Ng : List Str) (qg : Str) (sg : Scope) (g : Addr) (cdg : Value) (s : Shared) (H : Hp) (Eg : XK) : Cx := cxOf (L2N.CX X.prog X.w) X.prog X.w X.K X.mg X.base Ng qg sg g cdg X.A X.stack s H Eg
theorem pe_act {Eg : XK} {Ng : List Str} {qg : Str} {sg : Scope} {g f c' : Addr} {cdg : Value} {body : Expr} {scope : Scope} {k i : Nat} {a : Str} {pn : List (Addr × Obj)} {xe : Value → Shared → Prop} {W : WX} {E : XK} {tb : TE} {p1 p2 : Pos}
    (hp : LamPar params xs) (I : Inv X pins σ H s) (L : LamN X.N X.env.scope scope xs)
    (la : LamAt X params body scope f c' H s) (tk : L2N.Takes ((gotC X Ng qg sg g cdg s H Eg).tr pn xe) W) (hW : ∀ cls d (σ' : L2.St) H', σ'.length = Ng.length → E cls d H' → W cls d σ' H') (hr : Room (k + 1) (X.A.deeper (envOfC qg sg s.heap.objs.size g cdg))) (hgd : X.A.guards = some [])
    (hbody : ∀ (A : Around) (outer : List Env) (s : Shared) (H : Hp), Room k (A.deeper (LamX.lamEnv X scope s.heap.objs.size f c')) → A.guards = some [] → PE (lamC X A outer s H E scope f c') body tb)
    (hN : Ng[i]? = some a) (hv : Vis sg a) (hd : (a == ("__debug__" : Str)) = false := by decide) (hcd : (a == ("__classdict__" : Str)) = false := by decide) :
    PE ((gotC X Ng qg sg g cdg s H Eg).tr pn xe) (.Call (.Name a p1) [] [] p2)
      (fun σZ HZ Q => σZ[i]? = some (some (.ref f)) ∧ HZ c' = some (LamX.CodeO c' (X.env.qual ++ "<lambda>")) ∧ tb σ HZ Q) := by
  refine ⟨fun pinsZ sZ σZ HZ Q IZ h => ?_⟩
  obtain ⟨hs, hc, ht⟩ := h
  refine wpAny_Call_Name_kw (thn ((pe_var (pos := p1) (i := i) hN hv hd hcd).run pinsZ sZ σZ HZ (fun v H1 => v = .ref f ∧ H1 = HZ) IZ ⟨.ref f, hs, rfl, rfl⟩) fun u s1 ⟨v, H1, I1, r1, q1⟩ => ?_)
  obtain ⟨rfl, rfl⟩ := q1
  obtain rfl : u = Value.ref f := r1
  obtain ⟨dV, doc, pm, ctv, of0, nf, ff, dfl⟩ := la
  have noex : ∀ b : Addr, b ∉ ((gotC X Ng qg sg g cdg s H Eg).tr pn xe).ex := fun b z => absurd (show b ∈ ([] : List Addr) from z) (by simp)
  have of1 : s1.heap.get? f = some (lamO X params body scope dV doc pm c' ctv) := I1.base.keep f _ of0 nf ff (noex f)
  refine PySem.W.callWith_F0 ⟨_, _, _, _, of1⟩ ?_
  have un : Un (frs X.stack) [] H H1 s.heap s1.heap := I1.base
  obtain ⟨⟨oc, vs, t, hoc, hdc, hvc⟩, _, _⟩ := I1.hok c' _ hc
  -- how the parameters are bound
  obtain ⟨binds, hbd, hlc⟩ : ∃ binds, BindsTo s1 (PySem.W.kdv_fn "<lambda>" (X.env.qual ++ "<lambda>") params (.expr body) scope (cloFrom X.env.cells scope.names []) dV doc pm (.ref c') ctv) ⟨[], []⟩ binds ∧ ∀ y ∈ binds, scope.names.lookup y.1 = some .local := by
    cases hp with
    | none h1 h2 hb =>
      rcases dfl with ⟨_, rfl⟩ | ⟨_, _, _, _, _, _, _, z⟩
      · exact ⟨[], BindsTo.of_eq (hb _ _ _ _ _ _ _ _), fun y hy => absurd hy (by simp)⟩
      · exact absurd h1 z
    | @one x i0 j p h1 h2 hb =>
      rcases dfl with ⟨z, _⟩ | ⟨T, iT, tT, rfl, oT, nT, fT, z⟩
      · rw [h1] at z; cases z
      · obtain ⟨kk, e1, e2⟩ := hb (X.env.qual ++ "<lambda>") body scope (cloFrom X.env.cells scope.names []) (.ref T) doc pm (.ref c') ctv (.int iT tT)
        refine ⟨[(x, .int iT tT)], BindsTo.of_defaults rfl (I1.base.keep T _ oT nT fT (noex T)) rfl e1 e2, fun y hy => ?_⟩
        rw [List.mem_singleton.mp hy]
        exact L.par x (List.mem_singleton.mpr rfl)
  have rc : codeAny (model X.prog X.w) (X.A.deeper (envOfC qg sg s.heap.objs.size g cdg)) (.call (.ref f) ⟨[], []⟩) (CR (L2N.CX X.prog X.w) (envOfC qg sg s.heap.objs.size g cdg :: X.stack) X.prog X.w H1 s1 Q E) s1 := by
    refine PySem.W.kla_callFunE hr.depth of1 rfl L.co L.gen rfl ⟨c', oc, vs, t, rfl, hoc, hdc, hvc⟩ (hbd _ _ _ _ ?_)
    refine wpAny_newFunctionEnv (fun y hy => (L.own y hy).1) hlc (fun h1 hns hsb => ⟨I1.nolimit.fresh _ hsb, ?_⟩) L.kind
    show codeAny _ _ (.expr body (LamX.lamEnv X scope s1.heap.objs.size f c')) _ _
    have kp : ∀ b o, s1.heap.get? b = some o → h1.get? b = some o := fun b o e => hsb.extBut b o (Nat.ne_of_lt (Heap.lt_size e)) (Heap.get?_push_of_some _ e)
    have J := lam_start (A := X.A.deeper (envOfC qg sg s.heap.objs.size g cdg)) (outer := envOfC qg sg s.heap.objs.size g cdg :: X.stack) (E := E) (f := f) (c' := c') (tk := s1.toks + binds.length) I L I1.env0 hr.hd un hns kp
    refine PySem.W.kla_codeExpr (wpAny_mono ((hbody _ _ s1 H1 (hr.deeper _) hgd).run [] _ _ H1 Q J ht) (fun v s' hq => ?_) fun e s' hq => hq)
    obtain ⟨w', H', J', rv, q⟩ := hq
    exact ⟨w', H', J'.os, J'.bare, J'.base, J'.hok, rv, q⟩
  refine wpAny_call (codeAny_mono rc fun r s' hq => ?_)
  cases r with
  | error e => exact tk e s' (L2N.XE.of_call I1 (fun cls d H' h => hW cls d σZ H' I1.len h) hq)
  | ok fl =>
    cases fl with
    | ret u => exact I1.after hq
    | next => exact False.elim hq
    | brk => exact False.elim hq
    | cont => exact False.elim hq
end
end DL

set_option Elab.async false
set_option linter.all false
set_option maxRecDepth 100000
set_option autoImplicit false
set_option maxHeartbeats 2000000
namespace DL
open PySem PySem.Spec PyProof.Rows L2

/-! ### in an except suite: the fields of what was caught, defs called with it -/
/-- p's object is an exception of the class at C with the dict at dx -/
structure PinX (K : PySem.W.Frag) (p : Addr × Obj) (C dx : Addr) : Prop where
  z : L2N.Zn (.ref C) (some dx) p.2
  f : ∃ vs, p.2.data = .fields vs
  x : XfC K C
def tXfP (K : PySem.W.Frag) (p : Addr × Obj) (n : Str) (te : TE) : TE := fun σ H Q => te σ H fun x H1 => x = .ref p.1 ∧ ∃ C dx fs v, PinX K p C dx ∧ PySem.W.findIn K (.ref C) n = some none ∧ H1 dx = some (.xd fs) ∧ fs.lookup n = some v ∧ Q v H1
theorem pe_xfP {Y : Cx} {p : Addr × Obj} {e : Expr} {te : TE} {pos : Pos} {n : Str} (hp : p ∈ Y.pn) (he : PE Y e te) (hb : attributeBase e n Y.env (eval e Y.env) = eval e Y.env := by rfl) : PE Y (.Attribute e n pos) (tXfP Y.K p n te) := by
  refine ⟨fun pins s σ H Q I h => ?_⟩
  refine attr_of hb (thn (he.run pins s σ H _ I h) fun u s1 ⟨x, H1, I1, rx, ex, C, dx, fs, v, T, hno, ea, l, q⟩ => ?_)
  subst ex
  obtain rfl : u = Value.ref p.1 := rx
  obtain ⟨ga, _⟩ := I1.pin p (List.mem_append_left _ hp)
  obtain ⟨vs, hd⟩ := T.f
  obtain ⟨mA, hns, hr⟩ : ObjOk Y.prog Y.w H1 s1.heap dx (.xd fs) := I1.hok dx _ ea
  obtain ⟨od, ho, hl⟩ := lookIn_ns hns
  obtain ⟨w, hw, rw'⟩ := RelO.some_of (v := v) (o := mA n) (by rw [← l]; exact hr n)
  have J : PySem.W.InstAt s1.heap p.1 p.2 C (some od) := ⟨ga, T.z.1, by unfold PySem.W.notCls; rw [hd] <;> rfl, by rw [T.z.2.1]; exact ho⟩
  exact HandSPX.exc_get I1.kIn J T.x.ga T.x.gg T.x.exC (PySem.W.findObj_own T.x.hdC hno rfl (by rw [hl, hw])) (handed_of rw') ⟨v, H1, I1.tok _, rw', q⟩
/-- the def at f keeps the promise sp while p is handled -/
structure FnP (P : Program) (w : World) (K : PySem.W.Frag) (mg : Str → Option Value) (base : Heap) (k : Nat) (f : Addr) (fd : FuncData) (ps : List Str) (sp : Addr × Obj → Sp) : Prop where
  len : ∀ p vs H Q E, sp p vs H Q E → vs.length = ps.length
  run : ∀ (A : Around) (outer : List Env) (s : Shared) (H : Hp) (args : Args) (us : List Value) (vs : List V) (Q : VK) (E : XK) (p : Addr × Obj), L2H.RoomH k A → L2H.Hot1 A p → L2H.PinOk outer H s p → Env0 P w K mg base A outer s H → BindsTo s fd args (ps.zip us) → Vals vs us → sp p vs H Q E →
    codeAny (model P w) A (.call (.ref f) args) (CR (L2N.CX P w) outer P w H s Q E) s
theorem fnP_of {P : Program} {w : World} {K : PySem.W.Frag} {mg : Str → Option Value} {base : Heap} {x qual : Str} {params : Arguments} {body : List Stmt} {scope : Scope} {dvs : List V} {kws : List (Str × V)} {f : Addr} {fd : FuncData} {N ps : List Str} {k : Nat} {sp : Addr × Obj → Sp}
    (F : FunD K x qual params body scope dvs kws f fd) (S : FnScope N ps scope) (len : ∀ p vs H Q E, sp p vs H Q E → vs.length = ps.length)
    (hd : ∀ (cdv : Value) (A : Around) (outer : List Env) (s : Shared) (H : Hp) (vs : List V) (Q : VK) (E : XK) (p : Addr × Obj), sp p vs H Q E →
      ∃ t, PSs (L2H.cxH (L2N.CX P w) P w K mg base N qual scope f cdv A outer s H E p) body t ∧ t { nx := fun _ H' => Q .non H', rt := Q } (L2.start N vs) H) : FnP P w K mg base (k + 1) f fd ps sp := by
  obtain ⟨oc, od, dV, kV, doc, pm, an, cdv, ct, osl, rfl, lk, hcd, _, _⟩ := F.ex
  refine ⟨len, fun A outer s H args us vs Q E p hroom hot pin e0 hb r hsp => ?_⟩
  have KX : K.In s.heap := e0.mod.kin.keeps fun b o e => (e0.bs b o e).1
  have lim : s.heap.NoLimit := e0.mod.nolimit.keeps fun b o e => (e0.bs b o e).1
  have hkind : ((ps.zip us).all fun y => scope.names.lookup y.1 == some .local || scope.names.lookup y.1 == some .cell) = true := by
    rw [List.all_eq_true]
    rintro ⟨n, u⟩ hy
    rcases S.par n (List.of_mem_zip hy).1 with z | z
    · show (scope.names.lookup n == some .local || _) = true
      rw [z]; rfl
    · show (scope.names.lookup n == some .local || scope.names.lookup n == some .cell) = true
      rw [z]; rfl
  refine Att.call_fn KX lim lk hcd hroom.depth hb hkind (fun s1 x => ?_) S.co S.gen S.kind
  have I := L2H.inv_startH (CX := L2N.CX P w) (E := E) S pin e0 (len _ _ _ _ _ hsp) r x
  obtain ⟨t, pt, qt⟩ := hd cdv A outer s H vs Q E p hsp
  refine wpAny_mono (pt.run [] s1 (L2.start N vs) H _ I qt) (fun fl s' hs => ?_) fun e s' hs => hs
  cases fl with
  | ret u =>
    obtain ⟨v, σ', H', J, rv, z⟩ := hs
    exact ⟨v, H', J.os, J.bare, J.base, J.hok, rv, z⟩
  | next =>
    obtain ⟨σ', H', J, z⟩ := hs
    exact ⟨.non, H', J.os, J.bare, J.base, J.hok, rfl, z⟩
  | brk => obtain ⟨_, _, _, z⟩ := hs; exact False.elim z
  | cont => obtain ⟨_, _, _, z⟩ := hs; exact False.elim z
theorem pe_callP {Y : Cx} {k : Nat} {f : Addr} {fd : FuncData} {ps : List Str} {sp : Addr × Obj → Sp} {x : Str} {q pos : Pos} {e : Expr} {es : List Expr} {t : TA} {p : Addr × Obj} (F : FnP Y.prog Y.w Y.K Y.mg Y.base k f fd ps sp) (hr : L2H.RoomH k Y.A) (hot : L2H.Hot1 Y.A p) (hp : p ∈ Y.pn) (hg : Gl Y x) (hm : Y.mg x = some (.ref f)) (hk : PySem.W.keepIn Y.K (.ref f) = true) (hb : Binds Y.K fd ps [])
    (ha : PA Y (e :: es) t) (hdb : (x == ("__debug__" : Str)) = false := by decide) (he : starEach (e :: es) Y.env = (false, eval e Y.env) :: starEach es Y.env := by rfl) (hpl : (backTo pos (starEach es Y.env)).any (·.1) = false := by rfl) :
    PE Y (.Call (.Name x q) (e :: es) [] pos) (fun σ H Q => t σ H fun vs H1 => sp p vs H1 Q E0) := by
  refine ⟨fun pins s σ H Q I h => wpAny_Call_Name_kw (ld_glob I hg hm ?_ hdb)⟩
  refine PySem.W.callWith_K (h₀ := Y.base) I.ok.mod.kin hk (thn (ha.run pos pins s σ H _ I h) fun us s1 ⟨vs, H1, I1, r, q⟩ => ⟨I1.kIn, ?_⟩) he hpl
  have hl : (us ++ []).length = ps.length := by rw [List.append_nil, ← r.length]; exact F.len _ _ _ _ _ q
  have hb2 := hb s1 us I1.kIn hl
  rw [List.append_nil] at hb2
  obtain ⟨g1, g2, g3, g4, g5⟩ := I1.pin p (List.mem_append_left _ hp)
  have pin : L2H.PinOk Y.stack H1 s1 p := ⟨g1, g2, fun z => (List.mem_cons.mp (I1.stkSub p.1 z)).elim g3 g4, g5⟩
  refine wpAny_call (codeAny_mono (F.run Y.A Y.stack s1 H1 ⟨us, []⟩ us vs Q E0 p hr hot pin I1.env0 hb2 r q) fun r s' hq => ?_)
  cases r with
  | error e =>
    obtain ⟨_, _, _, _, _, _, _, _, _, _, _, _, z⟩ := hq
    exact False.elim z
  | ok fl =>
    cases fl with
    | ret u => exact I1.after hq
    | next => exact False.elim hq
    | brk => exact False.elim hq
    | cont => exact False.elim hq

/-! ### the fields of an error, as the laws tell them -/
def fieldsOf {α : Type} (c : Str) (fs : List (Str × α)) : Option (List α) :=
  let g1 := fun (f : Str) => (fs.lookup f).map fun v => [v]
  if c ∈ (["InvalidRatio", "InvalidNumber", "InvalidName", "InvalidLayer", "InvalidPlace", "InvalidPoint", "InvalidForm", "InvalidLimit"] : List Str) then g1 "given"
  else if c ∈ (["InvalidRow", "InvalidFact", "InvalidCommand"] : List Str) then g1 "at"
  else if c ∈ (["InvalidStep", "UnlikeEnds"] : List Str) then g1 "path"
  else if c ∈ (["DuplicateName", "UnknownName"] : List Str) then g1 "name"
  else if c ∈ (["InvalidText", "UnknownScript"] : List Str) then g1 "word"
  else if c = "InvalidTable" then g1 "layer"
  else if c = "InvalidWay" then (match fs.lookup ("layer" : Str), fs.lookup ("start" : Str), fs.lookup ("goal" : Str) with
    | some a, some b, some d => some [a, b, d]
    | _, _, _ => none)
  else if c = "Full" then g1 "limit"
  else if c = "InvalidPage" then g1 "line"
  else if c = "TooMany" then (match fs.lookup ("subject" : Str), fs.lookup ("most" : Str) with
    | some a, some b => some [a, b]
    | _, _ => none)
  else some []
def errFields : List Str := ["code", "given", "at", "path", "name", "word", "layer", "start", "goal", "limit", "line", "subject", "most"]
/-- what the written part says of an error's class -/
structure ErrC (K : PySem.W.Frag) (cs : List Value) (C : Addr) : Prop where
  x : XfC K C
  no : ∀ f ∈ errFields, PySem.W.findIn K (.ref C) f = some none
  is : PySem.W.exmAny K (.ref C) cs = some true
/-- the promise of _law_fields -/
def spFields (K : PySem.W.Frag) : Addr × Obj → Sp := fun p vs H Q _ => ∃ C dx fs c xs, vs = [.ref p.1] ∧ PinX K p C dx ∧ (∀ f ∈ errFields, PySem.W.findIn K (.ref C) f = some none) ∧ H dx = some (.xd fs) ∧ fs.lookup ("code" : Str) = some (.str c) ∧ fieldsOf c fs = some xs ∧
  ∀ H' l, Ex H H' → H l = none → H' l = some (.tup xs) → Q (.ref l) H'
end DL

set_option Elab.async false
set_option linter.all false
set_option maxRecDepth 100000
set_option autoImplicit false
set_option maxHeartbeats 2000000
namespace DL
open PySem PySem.Spec PyProof.Rows L2

section
variable {K : PySem.W.Frag} {G G1 : Hp} {so : So} {σ : L2.St} {H H1 H2 : Hp} {sl s1 : DSt}
theorem post_grown {P c' : Addr} {q : Str} {ps : Array Value} (rep : Rep K G so σ H sl) (hm : (P, Kd.tab q) ∈ so) (hP : H P = some (.tbl ps)) (gr : Grown H H1 P c' q ps) : ∃ G1, Post K G so σ H sl H1 G1 sl := by
  rcases gr with rfl | ⟨nC, l, k, rfl⟩
  · exact ⟨G, .refl rep⟩
  · have gC : G c' = none := rep.h.ex.free nC
    have nPc : P ≠ c' := ne_of_none hP nC
    have at_ : ∀ b, b ≠ P → b ≠ c' → upd (upd H P (.tbl (ps ++ #[rawInt l, rawInt k, .ref c']))) c' (LamX.CodeO c' q) b = H b := fun b z1 z2 => by rw [upd_ne z2, upd_ne z1]
    have nvP : ∀ b, so.Nt b → b ≠ P := fun b z y => z ⟨_, y ▸ hm⟩
    have hr : HRep K (upd G c' (LamX.CodeO c' q)) so (upd (upd H P (.tbl (ps ++ #[rawInt l, rawInt k, .ref c']))) c' (LamX.CodeO c' q)) := by
      refine ⟨fun b o e => ?_, fun b kd e => ?_, rep.h.ok⟩
      · by_cases z : b = c'
        · subst z; rw [upd_same] at e ⊢; exact e
        · rw [upd_ne z] at e
          rw [at_ b (nvP b (rep.h.nsrc e)) z]
          exact rep.h.ex b o e
      · have old := rep.h.vol b kd e
        have nb : b ≠ c' := fun z => by subst z; exact old.there nC
        by_cases z : b = P
        · subst z
          obtain rfl := rep.h.ok.uq _ _ _ e hm
          obtain ⟨gP, ps0, e1, e2, e3⟩ := old
          rw [hP] at e1; cases e1
          have eL : (ps ++ #[rawInt l, rawInt k, .ref c']).toList = ps.toList ++ [rawInt l, rawInt k, .ref c'] := by simp
          refine ⟨by rw [upd_ne nb]; exact gP, _, by rw [upd_ne nb, upd_same], by rw [eL]; exact PySem.TriplesOk_snoc _ _ _ _ e2, fun pos cv hc => ?_⟩
          rw [eL] at hc
          rcases LamX.among_app (pos := ⟨l, k, 0, 0⟩) _ e2 hc with y | y
          · obtain ⟨c0, y1, y2⟩ := e3 pos cv y
            exact ⟨c0, y1, Ex.new gC _ _ y2⟩
          · exact ⟨c', y, upd_same⟩
        · exact old.keep (Ex.new gC) (by rw [upd_ne nb]; exact old.g) (at_ b z nb)
    have pv : PostV K G so H .non _ (upd G c' (LamX.CodeO c' q)) (.d .non) := ⟨Ex.new gC, hr, fun b o e z => by rw [at_ b (nvP b z) (ne_of_none e nC)]; exact e, fun b n g z => by rw [upd_ne (fun y => by subst y; exact n nC)]; exact g, .non, fun _ _ e => (nomatch e), fun _ e => (nomatch e)⟩
    exact ⟨_, (pv.slots rep).toPost⟩
theorem PostV.tupleX {l : Addr} {vs : List V} {ds : List D} (h : HRep K G so H) (e : Ex H H2) (n : H l = none) (t : H2 l = some (.tup vs)) (a : DAll K G vs ds) : PostV K G so H (.ref l) H2 (upd G l (.tup vs)) (.d (.tup ds)) := by
  have gl : G l = none := h.ex.free n
  refine ⟨Ex.new gl, ⟨fun b o q => ?_, fun b k q => ?_, h.ok⟩, fun b o q _ => e b o q, fun b q g _ => by rw [upd_ne (fun z => by subst z; exact q n)]; exact g, DOk.tup (SqT.of upd_same) (a.mono (Ex.new gl)), fun _ o e => (nomatch e), fun _ e => (nomatch e)⟩
  · by_cases z : b = l
    · subst z; rw [upd_same] at q; cases q; exact t
    · rw [upd_ne z] at q; exact e b o (h.ex b o q)
  · have old := h.vol b k q
    have nb : b ≠ l := fun z => by subst z; exact old.there n
    obtain ⟨o, ho⟩ := Option.ne_none_iff_exists'.mp old.there
    exact old.keep (Ex.new gl) (by rw [upd_ne nb]; exact old.g) ((e b o ho).trans ho.symm)
theorem fields_all {c : Str} {vs : List (Str × V)} {fs : List (Str × D)} {xs : List D} (h : FAll K G vs fs) (e : fieldsOf c fs = some xs) : ∃ xv, fieldsOf c vs = some xv ∧ DAll K G xv xs := by
  have one : ∀ {f : Str} {xs : List D}, (fs.lookup f).map (fun v => [v]) = some xs → ∃ xv, (vs.lookup f).map (fun v => [v]) = some xv ∧ DAll K G xv xs := fun {f xs} z => by
    cases q : fs.lookup f with
    | none => rw [q] at z; cases z
    | some d =>
      rw [q] at z; cases z
      obtain ⟨v, h1, h2⟩ := h.look q
      exact ⟨[v], by rw [h1]; rfl, .cons h2 .nil⟩
  unfold fieldsOf at e ⊢
  dsimp only at e ⊢
  split at e
  · rename_i z; rw [if_pos z]; exact one e
  rename_i z; rw [if_neg z]
  split at e
  · rename_i z; rw [if_pos z]; exact one e
  rename_i z; rw [if_neg z]
  split at e
  · rename_i z; rw [if_pos z]; exact one e
  rename_i z; rw [if_neg z]
  split at e
  · rename_i z; rw [if_pos z]; exact one e
  rename_i z; rw [if_neg z]
  split at e
  · rename_i z; rw [if_pos z]; exact one e
  rename_i z; rw [if_neg z]
  split at e
  · rename_i z; rw [if_pos z]; exact one e
  rename_i z; rw [if_neg z]
  split at e
  · rename_i z; rw [if_pos z]
    split at e
    · rename_i a b d q1 q2 q3
      cases e
      obtain ⟨v1, h1, k1⟩ := h.look q1
      obtain ⟨v2, h2, k2⟩ := h.look q2
      obtain ⟨v3, h3, k3⟩ := h.look q3
      exact ⟨[v1, v2, v3], by rw [h1, h2, h3], .cons k1 (.cons k2 (.cons k3 .nil))⟩
    · cases e
  rename_i z; rw [if_neg z]
  split at e
  · rename_i z; rw [if_pos z]; exact one e
  rename_i z; rw [if_neg z]
  split at e
  · rename_i z; rw [if_pos z]; exact one e
  rename_i z; rw [if_neg z]
  split at e
  · rename_i z; rw [if_pos z]
    split at e
    · rename_i a b q1 q2
      cases e
      obtain ⟨v1, h1, k1⟩ := h.look q1
      obtain ⟨v2, h2, k2⟩ := h.look q2
      exact ⟨[v1, v2], by rw [h1, h2], .cons k1 (.cons k2 .nil)⟩
    · cases e
  rename_i z; rw [if_neg z]
  cases e
  exact ⟨[], rfl, .nil⟩
end

theorem fields_len {α : Type} {c : Str} {fs : List (Str × α)} {xs : List α} (e : fieldsOf c fs = some xs) : xs.length ≤ 3 := by
  have one : ∀ {f : Str} {xs : List α}, (fs.lookup f).map (fun v => [v]) = some xs → xs.length ≤ 3 := fun {f xs} z => by
    cases q : fs.lookup f with
    | none => rw [q] at z; cases z
    | some d => rw [q] at z; cases z; simp
  unfold fieldsOf at e
  dsimp only at e
  split at e
  · exact one e
  split at e
  · exact one e
  split at e
  · exact one e
  split at e
  · exact one e
  split at e
  · exact one e
  split at e
  · exact one e
  split at e
  · split at e
    · cases e; simp
    · cases e
  split at e
  · exact one e
  split at e
  · exact one e
  split at e
  · split at e
    · cases e; simp
    · cases e
  cases e; simp
/-! ### _law_ask(lambda: ..) -/
/-- what the law's asking def makes of the lambda's reading -/
def TTask (K : PySem.W.Frag) (cs : List Value) (tl : XK → Hp → VK → Prop) (H : Hp) (Q : VK) : Prop :=
  tl (fun cls d H' => ∃ C dx fs c xs, cls = .ref C ∧ d = some dx ∧ ErrC K cs C ∧ H' dx = some (.xd fs) ∧ fs.lookup ("code" : Str) = some (V.str c) ∧ fieldsOf c fs = some xs ∧ ∀ H2 l, Ex H' H2 → H' l = none → H2 l = some (.tup (.str c :: xs)) → Q (.ref l) H2) H
    (fun v H' => [V.str "", v].length ≤ sizeLine ∧ ∀ l, H' l = none → Q (.ref l) (upd H' l (.tup [.str "", v])))
def AskTo (X : Cx) (Ng : List Str) (qg : Str) (sg : Scope) (g : Addr) (bg : List Stmt) (a q : Str) (TT : (XK → Hp → VK → Prop) → Hp → VK → Prop) : Prop :=
  ∀ (cdg : Value) (f c' : Addr) (s : Shared) (H : Hp) (Q : VK) (tl : XK → Hp → VK → Prop),
    (∀ (W : WX) (pn : List (Addr × Obj)) (xe : Value → Shared → Prop) (E : XK) (p1 p2 : Pos), L2N.Takes ((gotC X Ng qg sg g cdg s H E0).tr pn xe) W → (∀ cls d (σ' : L2.St) H', σ'.length = Ng.length → E cls d H' → W cls d σ' H') →
      PE ((gotC X Ng qg sg g cdg s H E0).tr pn xe) (.Call (.Name a p1) [] [] p2) (fun σZ HZ Q => σZ[0]? = some (some (.ref f)) ∧ HZ c' = some (LamX.CodeO c' q) ∧ tl E HZ Q)) →
    H c' = some (LamX.CodeO c' q) → TT tl H Q →
    ∃ t, PSs (gotC X Ng qg sg g cdg s H E0) bg t ∧ t { nx := fun _ H' => Q .non H', rt := Q } (L2.start Ng [.ref f]) H
def dAsk (K : PySem.W.Frag) (cs : List Value) (te : TD) : TD := fun sl Q _ => te sl (fun v s1 => match pubV v with
    | .d x => Q (.d (.tup [.str "", x])) s1
    | _ => False)
  (fun cls fs s1 => ∃ C c xs, cls = .ref C ∧ ErrC K cs C ∧ fs.lookup ("code" : Str) = some (D.str c) ∧ fieldsOf c fs = some xs ∧ Q (.d (.tup (.str c :: xs))) s1)
section
variable {X : Cx} {W : WX} {K : PySem.W.Frag} {cs : List Value} {x a : Str} {g c : Addr} {fdg : FuncData} {qg : Str} {pg : Arguments} {bg : List Stmt} {sg : Scope} {Ng xs : List Str} {params : Arguments} {body : Expr} {scope : Scope} {te : TD} {k : Nat} {p lpos pos : Pos}
theorem de_ask (hg : Gl X x) (hm : X.mg x = some (.ref g)) (Fg : FunD X.K x qg pg bg sg [] [] g fdg) (Sg : FnScope Ng [a] sg) (hb : Binds X.K fdg [a] []) (hNg : Ng[0]? = some a) (hva : Vis sg a) (AK : AskTo X Ng qg sg g bg a (X.env.qual ++ "<lambda>") (TTask X.K cs))
    (hL : (c, He.tabOf X.K c, X.env.qual ++ "<lambda>") ∈ lamFns X.K) (TB : LamX.TabB X.base X.mg c (He.tabOf X.K c)) (hcode : X.env.code = .ref c) (hp : LamPar params xs) (L : LamN X.N X.env.scope scope xs) (hr : Room (k + 2) X.A) (hgd : X.A.guards = some [])
    (hbody : ∀ (A : Around) (outer : List Env) (s : Shared) (H : Hp) (E : XK) (f c' : Addr), Room k (A.deeper (LamX.lamEnv X scope s.heap.objs.size f c')) → A.guards = some [] → DE (lamC X A outer s H E scope f c') (fun cls d _ H' => E cls d H') body te)
    (hK : X.K = K := by rfl) (hdb : (x == ("__debug__" : Str)) = false := by decide) (hd : (a == ("__debug__" : Str)) = false := by decide) (hcd : (a == ("__classdict__" : Str)) = false := by decide) :
    DE X W (.Call (.Name x p) [.Lambda params body scope lpos] [] pos) (dAsk K cs te) := by
  subst hK
  refine ⟨fun pins s σ H R I h => ?_⟩
  obtain ⟨G, so, sl, Q, E, rep, q, hq, hx⟩ := h
  refine wpAny_Call_Name_kw (ld_glob I hg hm ?_ hdb)
  refine PySem.W.callWith_K (h₀ := X.base) I.ok.mod.kin Fg.kp ?_ (by rfl) (by rfl)
  show wpAny _ _ (spliced ((false, eval (.Lambda params body scope lpos) X.env) :: backTo pos (starEach [] X.env))) _ _ s
  have hmem := rep.h.ok.tb _ hL
  obtain ⟨gP, ps, hP, ht, ha⟩ : TabOk G H (He.tabOf X.K c) (X.env.qual ++ "<lambda>") := rep.h.vol _ _ hmem
  refine Calls.spliced_cons (lam_eval hp I TB hcode hP ht (fun pos cv hc => let ⟨c1, e1, e2⟩ := ha pos cv hc; ⟨c1, e1, rep.h.ex _ _ e2⟩) (L.has I.ok) fun f c' H1 s' I1 gr la hco => ?_)
  obtain ⟨G1, post⟩ := post_grown rep hmem hP gr
  refine Calls.spliced_nil ⟨I1.kIn, ?_⟩
  obtain ⟨oc, od, dV, kV, doc, pm, an, cdv, ct, osl, rfl, lk, hcdI, _, _⟩ := Fg.ex
  have e0 := I1.env0
  have hbd := hb s' [.ref f] I1.kIn rfl
  have hkind : (([a].zip [Value.ref f]).all fun y => sg.names.lookup y.1 == some .local || sg.names.lookup y.1 == some .cell) = true := by
    rw [List.all_eq_true]
    rintro ⟨n, u⟩ hy
    rcases Sg.par n (List.of_mem_zip hy).1 with z | z
    · show (sg.names.lookup n == some .local || _) = true
      rw [z]; rfl
    · show (sg.names.lookup n == some .local || sg.names.lookup n == some .cell) = true
      rw [z]; rfl
  have TT : TTask X.K cs (fun E H' Q' => up X.K (fun cls d _ H' => E cls d H') te σ H' Q') H1 R := by
    refine ⟨G1, so, sl, _, _, post.rep, q, fun v H2 G2 dv s2 p2 q2 => ⟨by show 2 ≤ sizeLine; decide, fun l nl => ?_⟩, fun cls d H2 G2 fs s2 p2 xd q2 => ?_⟩
    · obtain ⟨G3, p3⟩ := p2.pub
      split at q2
      · rename_i y ey
        rw [ey] at p3
        have vx : DOk X.K G3 v y := p3.val
        refine hq _ _ _ _ s2 (post.thenE (p3.toPost.thenV (.tuple p3.rep.h nl (.cons (.str "") (.cons vx .nil))))) q2
      · exact q2.elim
    · obtain ⟨C, c0, ys, rfl, ec, lc, fc, q3⟩ := q2
      cases d with
      | none =>
        have z : fs = [] := xd
        subst z; cases lc
      | some dx =>
        obtain ⟨vs, hv, fa⟩ := xd
        obtain ⟨v0, l1, l2⟩ := fa.look lc
        cases l2
        obtain ⟨xv, f1, f2⟩ := fields_all fa fc
        refine ⟨C, dx, vs, c0, xv, rfl, rfl, ec, hv, l1, f1, fun H3 l ex nl tl => ?_⟩
        exact hq _ _ _ _ s2 (post.thenE (p2.thenV (PostV.tupleX p2.rep.h ex nl tl (.cons (.str c0) f2)))) q3
  have rc : codeAny (model X.prog X.w) X.A (.call (.ref g) ⟨[.ref f], []⟩) (CR (L2N.CX X.prog X.w) X.stack X.prog X.w H1 s' R E0) s' := by
    refine Att.call_fn I1.kIn (e0.mod.nolimit.keeps fun b o e => (e0.bs b o e).1) lk hcdI hr.depth hbd hkind (fun s2 x2 => ?_) Sg.co Sg.gen Sg.kind
    have J := inv_start (CX := L2N.CX X.prog X.w) (E := E0) (vs := [.ref f]) Sg hr.hd e0 rfl (.cons rfl .nil) x2
    obtain ⟨t', pt, qt⟩ := AK cdv f c' s' H1 R (fun E H' Q' => up X.K (fun cls d _ H' => E cls d H') te σ H' Q') (fun W pn xe E p1 p2 tk hW => pe_act (i := 0) (tb := up X.K (fun cls d _ H' => E cls d H') te) hp I1 L la tk hW (hr.deeper _) hgd (fun A outer s H hr2 hg2 => hbody A outer s H E f c' hr2 hg2) hNg hva hd hcd) hco TT
    refine wpAny_mono (pt.run [] s2 _ H1 _ J qt) (fun fl s3 hs => ?_) fun e s3 hs => hs
    cases fl with
    | ret u =>
      obtain ⟨v, σ', H', J', rv, z⟩ := hs
      exact ⟨v, H', J'.os, J'.bare, J'.base, J'.hok, rv, z⟩
    | next =>
      obtain ⟨σ', H', J', z⟩ := hs
      exact ⟨.non, H', J'.os, J'.bare, J'.base, J'.hok, rfl, z⟩
    | brk => obtain ⟨_, _, _, z⟩ := hs; exact False.elim z
    | cont => obtain ⟨_, _, _, z⟩ := hs; exact False.elim z
  refine wpAny_call (codeAny_mono rc fun r s3 z => ?_)
  cases r with
  | error e =>
    obtain ⟨_, _, _, _, _, _, _, _, _, _, _, _, y⟩ := z
    exact False.elim y
  | ok fl =>
    cases fl with
    | ret u => exact I1.after z
    | next => exact False.elim z
    | brk => exact False.elim z
    | cont => exact False.elim z
end
end DL

set_option Elab.async false
set_option linter.all false
set_option maxRecDepth 100000
set_option autoImplicit false
set_option maxHeartbeats 2000000
/-! promises by the number of arguments -/
namespace DL
open PySem PySem.Spec PyProof.Rows L2
abbrev PQ := (DV → Prop) → XE' → Prop
theorem no_see {ds : List D} {pre : List DV} (h : ∀ v ∈ pre, ∀ o, v ≠ .see o) (i : Nat) (o : OO) : (pre ++ ds.map DV.d)[i]? ≠ some (.see o) := fun z => by
  have m := List.mem_of_getElem? z
  rcases List.mem_append.mp m with m | m
  · exact h _ m o rfl
  · obtain ⟨x, _, e⟩ := List.mem_map.mp m
    cases e
theorem no_bor {ds : List D} (i : Nat) (o : OO) : (ds.map DV.d)[i]? ≠ some (.bor o) := fun z => by
  obtain ⟨x, _, e⟩ := List.mem_map.mp (List.mem_of_getElem? z)
  cases e
section
variable {P : Program} {w : World} {K : PySem.W.Frag} {mg : Str → Option Value} {base : Heap} {x qual : Str} {params : Arguments} {body : List Stmt} {scope : Scope} {dvs : List V} {kws : List (Str × V)} {fa : Addr} {fd : FuncData} {N : List Str} {k : Nat} {t : TDS}
/-- the def's body, derived -/
abbrev BodyD (P : Program) (w : World) (K : PySem.W.Frag) (mg : Str → Option Value) (base : Heap) (N : List Str) (qual : Str) (scope : Scope) (fa : Addr) (k : Nat) (body : List Stmt) (t : TDS) : Prop :=
  ∀ (cdv : Value) (A : Around) (outer : List Env) (s : Shared) (H : Hp) (E : XK), Room k (A.deeper (envOfC qual scope s.heap.objs.size fa cdv)) → (cxOf (L2N.CX P w) P w K mg base N qual scope fa cdv A outer s H E).A.guards = some [] →
    DSs (cxOf (L2N.CX P w) P w K mg base N qual scope fa cdv A outer s H E) (fun cls d _ H' => E cls d H') body t
abbrev endsF (Q : DV → Prop) (E : XE') : EndsD := { nx := fun _ => Q (.d .non), rt := retQ Q, bk := fun _ => False, ct := fun _ => False, xc := fun cls fs _ => E cls fs }
def sp0 (f : PQ) : SpD := fun args Q E => args = [] ∧ f  Q E
theorem fn0_of {f : PQ}  (F : FunD K x qual params body scope dvs kws fa fd) (S : FnScope N [] scope) (hd : BodyD P w K mg base N qual scope fa k body t) (hr : ∀  Q E, f  Q E → t (endsF Q E) (startD N [])) : FnG P w K mg base (k + 1) fa fd [] (sp0 f) :=
  fnG_of F S (by rintro _ Q E ⟨rfl, h⟩; rfl) (by rintro _ Q E ⟨rfl, h⟩; exact no_see (ds := []) (pre := []) (fun _ h => by cases h)) hd (by rintro _ Q E ⟨rfl, h⟩; exact hr  Q E h)
def sr0 (f : PQ) : SpD := fun args Q E => args = [.src] ∧ f  Q E
theorem gn0_of {f : PQ} {ps : Str}  (F : FunD K x qual params body scope dvs kws fa fd) (S : FnScope N [ps] scope) (hd : BodyD P w K mg base N qual scope fa k body t) (hr : ∀  Q E, f  Q E → t (endsF Q E) (startD N [.src])) : FnG P w K mg base (k + 1) fa fd [ps] (sr0 f) :=
  fnG_of F S (by rintro _ Q E ⟨rfl, h⟩; rfl) (by rintro _ Q E ⟨rfl, h⟩; exact no_see (ds := []) (pre := [.src]) (fun v h o => by rw [List.mem_singleton.mp h]; exact fun z => by cases z)) hd (by rintro _ Q E ⟨rfl, h⟩; exact hr  Q E h)
def sp1 (f : D → PQ) : SpD := fun args Q E => ∃ x0 : D, args = [.d x0] ∧ f x0 Q E
theorem fn1_of {f : D → PQ} {p0 : Str} (F : FunD K x qual params body scope dvs kws fa fd) (S : FnScope N [p0] scope) (hd : BodyD P w K mg base N qual scope fa k body t) (hr : ∀ x0 Q E, f x0 Q E → t (endsF Q E) (startD N [.d x0])) : FnG P w K mg base (k + 1) fa fd [p0] (sp1 f) :=
  fnG_of F S (by rintro _ Q E ⟨x0, rfl, h⟩; rfl) (by rintro _ Q E ⟨x0, rfl, h⟩; exact no_see (ds := [x0]) (pre := []) (fun _ h => by cases h)) hd (by rintro _ Q E ⟨x0, rfl, h⟩; exact hr x0 Q E h)
def sr1 (f : D → PQ) : SpD := fun args Q E => ∃ x0 : D, args = [.src, .d x0] ∧ f x0 Q E
theorem gn1_of {f : D → PQ} {ps : Str} {p0 : Str} (F : FunD K x qual params body scope dvs kws fa fd) (S : FnScope N [ps, p0] scope) (hd : BodyD P w K mg base N qual scope fa k body t) (hr : ∀ x0 Q E, f x0 Q E → t (endsF Q E) (startD N [.src, .d x0])) : FnG P w K mg base (k + 1) fa fd [ps, p0] (sr1 f) :=
  fnG_of F S (by rintro _ Q E ⟨x0, rfl, h⟩; rfl) (by rintro _ Q E ⟨x0, rfl, h⟩; exact no_see (ds := [x0]) (pre := [.src]) (fun v h o => by rw [List.mem_singleton.mp h]; exact fun z => by cases z)) hd (by rintro _ Q E ⟨x0, rfl, h⟩; exact hr x0 Q E h)
def sp2 (f : D → D → PQ) : SpD := fun args Q E => ∃ x0 : D, ∃ x1 : D, args = [.d x0, .d x1] ∧ f x0 x1 Q E
theorem fn2_of {f : D → D → PQ} {p0 : Str} {p1 : Str} (F : FunD K x qual params body scope dvs kws fa fd) (S : FnScope N [p0, p1] scope) (hd : BodyD P w K mg base N qual scope fa k body t) (hr : ∀ x0 x1 Q E, f x0 x1 Q E → t (endsF Q E) (startD N [.d x0, .d x1])) : FnG P w K mg base (k + 1) fa fd [p0, p1] (sp2 f) :=
  fnG_of F S (by rintro _ Q E ⟨x0, x1, rfl, h⟩; rfl) (by rintro _ Q E ⟨x0, x1, rfl, h⟩; exact no_see (ds := [x0, x1]) (pre := []) (fun _ h => by cases h)) hd (by rintro _ Q E ⟨x0, x1, rfl, h⟩; exact hr x0 x1 Q E h)
def sr2 (f : D → D → PQ) : SpD := fun args Q E => ∃ x0 : D, ∃ x1 : D, args = [.src, .d x0, .d x1] ∧ f x0 x1 Q E
theorem gn2_of {f : D → D → PQ} {ps : Str} {p0 : Str} {p1 : Str} (F : FunD K x qual params body scope dvs kws fa fd) (S : FnScope N [ps, p0, p1] scope) (hd : BodyD P w K mg base N qual scope fa k body t) (hr : ∀ x0 x1 Q E, f x0 x1 Q E → t (endsF Q E) (startD N [.src, .d x0, .d x1])) : FnG P w K mg base (k + 1) fa fd [ps, p0, p1] (sr2 f) :=
  fnG_of F S (by rintro _ Q E ⟨x0, x1, rfl, h⟩; rfl) (by rintro _ Q E ⟨x0, x1, rfl, h⟩; exact no_see (ds := [x0, x1]) (pre := [.src]) (fun v h o => by rw [List.mem_singleton.mp h]; exact fun z => by cases z)) hd (by rintro _ Q E ⟨x0, x1, rfl, h⟩; exact hr x0 x1 Q E h)
def sp3 (f : D → D → D → PQ) : SpD := fun args Q E => ∃ x0 : D, ∃ x1 : D, ∃ x2 : D, args = [.d x0, .d x1, .d x2] ∧ f x0 x1 x2 Q E
theorem fn3_of {f : D → D → D → PQ} {p0 : Str} {p1 : Str} {p2 : Str} (F : FunD K x qual params body scope dvs kws fa fd) (S : FnScope N [p0, p1, p2] scope) (hd : BodyD P w K mg base N qual scope fa k body t) (hr : ∀ x0 x1 x2 Q E, f x0 x1 x2 Q E → t (endsF Q E) (startD N [.d x0, .d x1, .d x2])) : FnG P w K mg base (k + 1) fa fd [p0, p1, p2] (sp3 f) :=
  fnG_of F S (by rintro _ Q E ⟨x0, x1, x2, rfl, h⟩; rfl) (by rintro _ Q E ⟨x0, x1, x2, rfl, h⟩; exact no_see (ds := [x0, x1, x2]) (pre := []) (fun _ h => by cases h)) hd (by rintro _ Q E ⟨x0, x1, x2, rfl, h⟩; exact hr x0 x1 x2 Q E h)
def sr3 (f : D → D → D → PQ) : SpD := fun args Q E => ∃ x0 : D, ∃ x1 : D, ∃ x2 : D, args = [.src, .d x0, .d x1, .d x2] ∧ f x0 x1 x2 Q E
theorem gn3_of {f : D → D → D → PQ} {ps : Str} {p0 : Str} {p1 : Str} {p2 : Str} (F : FunD K x qual params body scope dvs kws fa fd) (S : FnScope N [ps, p0, p1, p2] scope) (hd : BodyD P w K mg base N qual scope fa k body t) (hr : ∀ x0 x1 x2 Q E, f x0 x1 x2 Q E → t (endsF Q E) (startD N [.src, .d x0, .d x1, .d x2])) : FnG P w K mg base (k + 1) fa fd [ps, p0, p1, p2] (sr3 f) :=
  fnG_of F S (by rintro _ Q E ⟨x0, x1, x2, rfl, h⟩; rfl) (by rintro _ Q E ⟨x0, x1, x2, rfl, h⟩; exact no_see (ds := [x0, x1, x2]) (pre := [.src]) (fun v h o => by rw [List.mem_singleton.mp h]; exact fun z => by cases z)) hd (by rintro _ Q E ⟨x0, x1, x2, rfl, h⟩; exact hr x0 x1 x2 Q E h)
def sp4 (f : D → D → D → D → PQ) : SpD := fun args Q E => ∃ x0 : D, ∃ x1 : D, ∃ x2 : D, ∃ x3 : D, args = [.d x0, .d x1, .d x2, .d x3] ∧ f x0 x1 x2 x3 Q E
theorem fn4_of {f : D → D → D → D → PQ} {p0 : Str} {p1 : Str} {p2 : Str} {p3 : Str} (F : FunD K x qual params body scope dvs kws fa fd) (S : FnScope N [p0, p1, p2, p3] scope) (hd : BodyD P w K mg base N qual scope fa k body t) (hr : ∀ x0 x1 x2 x3 Q E, f x0 x1 x2 x3 Q E → t (endsF Q E) (startD N [.d x0, .d x1, .d x2, .d x3])) : FnG P w K mg base (k + 1) fa fd [p0, p1, p2, p3] (sp4 f) :=
  fnG_of F S (by rintro _ Q E ⟨x0, x1, x2, x3, rfl, h⟩; rfl) (by rintro _ Q E ⟨x0, x1, x2, x3, rfl, h⟩; exact no_see (ds := [x0, x1, x2, x3]) (pre := []) (fun _ h => by cases h)) hd (by rintro _ Q E ⟨x0, x1, x2, x3, rfl, h⟩; exact hr x0 x1 x2 x3 Q E h)
def sr4 (f : D → D → D → D → PQ) : SpD := fun args Q E => ∃ x0 : D, ∃ x1 : D, ∃ x2 : D, ∃ x3 : D, args = [.src, .d x0, .d x1, .d x2, .d x3] ∧ f x0 x1 x2 x3 Q E
theorem gn4_of {f : D → D → D → D → PQ} {ps : Str} {p0 : Str} {p1 : Str} {p2 : Str} {p3 : Str} (F : FunD K x qual params body scope dvs kws fa fd) (S : FnScope N [ps, p0, p1, p2, p3] scope) (hd : BodyD P w K mg base N qual scope fa k body t) (hr : ∀ x0 x1 x2 x3 Q E, f x0 x1 x2 x3 Q E → t (endsF Q E) (startD N [.src, .d x0, .d x1, .d x2, .d x3])) : FnG P w K mg base (k + 1) fa fd [ps, p0, p1, p2, p3] (sr4 f) :=
  fnG_of F S (by rintro _ Q E ⟨x0, x1, x2, x3, rfl, h⟩; rfl) (by rintro _ Q E ⟨x0, x1, x2, x3, rfl, h⟩; exact no_see (ds := [x0, x1, x2, x3]) (pre := [.src]) (fun v h o => by rw [List.mem_singleton.mp h]; exact fun z => by cases z)) hd (by rintro _ Q E ⟨x0, x1, x2, x3, rfl, h⟩; exact hr x0 x1 x2 x3 Q E h)
def sp5 (f : D → D → D → D → D → PQ) : SpD := fun args Q E => ∃ x0 : D, ∃ x1 : D, ∃ x2 : D, ∃ x3 : D, ∃ x4 : D, args = [.d x0, .d x1, .d x2, .d x3, .d x4] ∧ f x0 x1 x2 x3 x4 Q E
theorem fn5_of {f : D → D → D → D → D → PQ} {p0 : Str} {p1 : Str} {p2 : Str} {p3 : Str} {p4 : Str} (F : FunD K x qual params body scope dvs kws fa fd) (S : FnScope N [p0, p1, p2, p3, p4] scope) (hd : BodyD P w K mg base N qual scope fa k body t) (hr : ∀ x0 x1 x2 x3 x4 Q E, f x0 x1 x2 x3 x4 Q E → t (endsF Q E) (startD N [.d x0, .d x1, .d x2, .d x3, .d x4])) : FnG P w K mg base (k + 1) fa fd [p0, p1, p2, p3, p4] (sp5 f) :=
  fnG_of F S (by rintro _ Q E ⟨x0, x1, x2, x3, x4, rfl, h⟩; rfl) (by rintro _ Q E ⟨x0, x1, x2, x3, x4, rfl, h⟩; exact no_see (ds := [x0, x1, x2, x3, x4]) (pre := []) (fun _ h => by cases h)) hd (by rintro _ Q E ⟨x0, x1, x2, x3, x4, rfl, h⟩; exact hr x0 x1 x2 x3 x4 Q E h)
def sr5 (f : D → D → D → D → D → PQ) : SpD := fun args Q E => ∃ x0 : D, ∃ x1 : D, ∃ x2 : D, ∃ x3 : D, ∃ x4 : D, args = [.src, .d x0, .d x1, .d x2, .d x3, .d x4] ∧ f x0 x1 x2 x3 x4 Q E
theorem gn5_of {f : D → D → D → D → D → PQ} {ps : Str} {p0 : Str} {p1 : Str} {p2 : Str} {p3 : Str} {p4 : Str} (F : FunD K x qual params body scope dvs kws fa fd) (S : FnScope N [ps, p0, p1, p2, p3, p4] scope) (hd : BodyD P w K mg base N qual scope fa k body t) (hr : ∀ x0 x1 x2 x3 x4 Q E, f x0 x1 x2 x3 x4 Q E → t (endsF Q E) (startD N [.src, .d x0, .d x1, .d x2, .d x3, .d x4])) : FnG P w K mg base (k + 1) fa fd [ps, p0, p1, p2, p3, p4] (sr5 f) :=
  fnG_of F S (by rintro _ Q E ⟨x0, x1, x2, x3, x4, rfl, h⟩; rfl) (by rintro _ Q E ⟨x0, x1, x2, x3, x4, rfl, h⟩; exact no_see (ds := [x0, x1, x2, x3, x4]) (pre := [.src]) (fun v h o => by rw [List.mem_singleton.mp h]; exact fun z => by cases z)) hd (by rintro _ Q E ⟨x0, x1, x2, x3, x4, rfl, h⟩; exact hr x0 x1 x2 x3 x4 Q E h)
def sp6 (f : D → D → D → D → D → D → PQ) : SpD := fun args Q E => ∃ x0 : D, ∃ x1 : D, ∃ x2 : D, ∃ x3 : D, ∃ x4 : D, ∃ x5 : D, args = [.d x0, .d x1, .d x2, .d x3, .d x4, .d x5] ∧ f x0 x1 x2 x3 x4 x5 Q E
theorem fn6_of {f : D → D → D → D → D → D → PQ} {p0 : Str} {p1 : Str} {p2 : Str} {p3 : Str} {p4 : Str} {p5 : Str} (F : FunD K x qual params body scope dvs kws fa fd) (S : FnScope N [p0, p1, p2, p3, p4, p5] scope) (hd : BodyD P w K mg base N qual scope fa k body t) (hr : ∀ x0 x1 x2 x3 x4 x5 Q E, f x0 x1 x2 x3 x4 x5 Q E → t (endsF Q E) (startD N [.d x0, .d x1, .d x2, .d x3, .d x4, .d x5])) : FnG P w K mg base (k + 1) fa fd [p0, p1, p2, p3, p4, p5] (sp6 f) :=
  fnG_of F S (by rintro _ Q E ⟨x0, x1, x2, x3, x4, x5, rfl, h⟩; rfl) (by rintro _ Q E ⟨x0, x1, x2, x3, x4, x5, rfl, h⟩; exact no_see (ds := [x0, x1, x2, x3, x4, x5]) (pre := []) (fun _ h => by cases h)) hd (by rintro _ Q E ⟨x0, x1, x2, x3, x4, x5, rfl, h⟩; exact hr x0 x1 x2 x3 x4 x5 Q E h)
def sr6 (f : D → D → D → D → D → D → PQ) : SpD := fun args Q E => ∃ x0 : D, ∃ x1 : D, ∃ x2 : D, ∃ x3 : D, ∃ x4 : D, ∃ x5 : D, args = [.src, .d x0, .d x1, .d x2, .d x3, .d x4, .d x5] ∧ f x0 x1 x2 x3 x4 x5 Q E
theorem gn6_of {f : D → D → D → D → D → D → PQ} {ps : Str} {p0 : Str} {p1 : Str} {p2 : Str} {p3 : Str} {p4 : Str} {p5 : Str} (F : FunD K x qual params body scope dvs kws fa fd) (S : FnScope N [ps, p0, p1, p2, p3, p4, p5] scope) (hd : BodyD P w K mg base N qual scope fa k body t) (hr : ∀ x0 x1 x2 x3 x4 x5 Q E, f x0 x1 x2 x3 x4 x5 Q E → t (endsF Q E) (startD N [.src, .d x0, .d x1, .d x2, .d x3, .d x4, .d x5])) : FnG P w K mg base (k + 1) fa fd [ps, p0, p1, p2, p3, p4, p5] (sr6 f) :=
  fnG_of F S (by rintro _ Q E ⟨x0, x1, x2, x3, x4, x5, rfl, h⟩; rfl) (by rintro _ Q E ⟨x0, x1, x2, x3, x4, x5, rfl, h⟩; exact no_see (ds := [x0, x1, x2, x3, x4, x5]) (pre := [.src]) (fun v h o => by rw [List.mem_singleton.mp h]; exact fun z => by cases z)) hd (by rintro _ Q E ⟨x0, x1, x2, x3, x4, x5, rfl, h⟩; exact hr x0 x1 x2 x3 x4 x5 Q E h)
theorem fnRc_of {ps : List Str} {sp : Sp} (F : FunD K x qual params body scope dvs kws fa fd) (S : FnScope N ps scope) (len : ∀ vs H Q E, sp vs H Q E → vs.length = ps.length)
    (hd : ∀ (cdv : Value), fd.code = cdv → ∀ (A : Around) (outer : List Env) (s : Shared) (H : Hp) (vs : List V) (Q : VK) (E : XK), Room k (A.deeper (envOfC qual scope s.heap.objs.size fa cdv)) → (cxOf (L2N.CX P w) P w K mg base N qual scope fa cdv A outer s H E).A.guards = some [] → sp vs H Q E →
      ∃ t, PSs (cxOf (L2N.CX P w) P w K mg base N qual scope fa cdv A outer s H E) body t ∧ t { nx := fun _ H' => Q .non H', rt := Q } (L2.start N vs) H) : FnR P w K mg base (k + 1) fa fd ps sp := by
  obtain ⟨oc, od, dV, kV, doc, pm, an, cdv, ct, osl, e, lk, hcd, z1, z2⟩ := F.ex
  refine ⟨len, fun A outer s H args us vs Q E hroom hg e0 hb r hsp => ?_⟩
  have KX : K.In s.heap := e0.mod.kin.keeps fun b o e => (e0.bs b o e).1
  have lim : s.heap.NoLimit := e0.mod.nolimit.keeps fun b o e => (e0.bs b o e).1
  have hkind : ((ps.zip us).all fun y => scope.names.lookup y.1 == some .local || scope.names.lookup y.1 == some .cell) = true := by
    rw [List.all_eq_true]
    rintro ⟨n, u⟩ hy
    rcases S.par n (List.of_mem_zip hy).1 with z | z
    · show (scope.names.lookup n == some .local || _) = true
      rw [z]; rfl
    · show (scope.names.lookup n == some .local || scope.names.lookup n == some .cell) = true
      rw [z]; rfl
  subst e
  refine Att.call_fn KX lim lk hcd hroom.depth hb hkind (fun s1 x => ?_) S.co S.gen S.kind
  have I := inv_start (CX := L2N.CX P w) (E := E) S hroom.hd e0 (len _ _ _ _ hsp) r x
  obtain ⟨t, pt, qt⟩ := hd cdv rfl A outer s H vs Q E (hroom.deeper _) hg hsp
  refine wpAny_mono (pt.run [] s1 (L2.start N vs) H _ I qt) (fun fl s' hs => ?_) fun e s' hs => hs
  cases fl with
  | ret u =>
    obtain ⟨v, σ', H', J, rv, z⟩ := hs
    exact ⟨v, H', J.os, J.bare, J.base, J.hok, rv, z⟩
  | next =>
    obtain ⟨σ', H', J, z⟩ := hs
    exact ⟨.non, H', J.os, J.bare, J.base, J.hok, rfl, z⟩
  | brk => obtain ⟨_, _, _, z⟩ := hs; exact False.elim z
  | cont => obtain ⟨_, _, _, z⟩ := hs; exact False.elim z
end
/-! ### target = value -/
def dAsg (te : TD) (gd : TDG) : TDS := fun E sl => te sl (fun x s1 => match pubV x with
  | .d y => gd y s1 E.nx
  | _ => False) E.xc
theorem ds_asg {X : Cx} {W : WX} {tg e : Expr} {te : TD} {g' : TG} {gd : TDG} {ix : List Nat} {pos : Pos} (he : DE X W e te) (hg : DG X ix tg g' gd) (hs : swapsWithSole [tg] e pos.line X.env = pure false := by rfl) (hw : swappedStores [tg] e X.env = pure none := by rfl)
    (h1 : (assignEach [tg] X.env).map (·.2) = [assign tg X.env] := by rfl) : DS X W (.Assign [tg] e pos) (dAsg te gd) := by
  obtain ⟨pg, sg⟩ := hg
  refine ps_len (ps_asg he pg hs hw h1) fun D σ H hl ⟨G, so, sl, E, rep, q, ok⟩ => ?_
  refine ⟨G, so, sl, _, E.xc, rep, q, fun v H1 G1 dv s1 p q1 => ?_, ok.xc.ex⟩
  obtain ⟨G2, p2⟩ := p.pub
  split at q1
  · rename_i y ey
    rw [ey] at p2
    exact sg G2 so σ H1 s1 v y _ _ hl p2.rep p2.val q1 fun σ' sl' t _ q2 => ok.nx σ' H1 G2 sl' (p2.toPost.s.trans t) q2
  · exact q1.elim
theorem asg_cut {te : TD} {gd : TDG} {u : TDS} {E : EndsD} {sl : DSt} (h : te sl (fun x s1 => match pubV x with
  | .d y => gd y s1 (u E)
  | _ => False) E.xc) : dSeq (dAsg te gd) u E sl := h
/-! ### the lambda's names, decided -/
def lamNB (N : List Str) (sc scope : Scope) (xs : List Str) : Bool :=
  decide (scope.kind = .function) && (!scope.isCoroutine && (!scope.isGenerator && ((scope.names.all fun y => !decide (y.2 = .cell) && ((!decide (y.2 = .local) || !N.contains y.1) && (!decide (y.2 = .free) || (decide (sc.names.lookup y.1 = some .cell) || decide (sc.names.lookup y.1 = some .free))))) && xs.all fun a => decide (scope.names.lookup a = some .local))))
theorem lamN_by {N : List Str} {sc scope : Scope} {xs : List Str} (h : lamNB N sc scope xs = true) : LamN N sc scope xs := by
  unfold lamNB at h
  simp only [Bool.and_eq_true, Bool.or_eq_true, Bool.not_eq_true', decide_eq_true_eq, decide_eq_false_iff_not, List.all_eq_true] at h
  obtain ⟨h1, h2, h3, h4, h5⟩ := h
  refine ⟨h1, h2, h3, fun y hy => ⟨(h4 y hy).1, fun e => ?_⟩, fun y hy e => ?_, h5⟩
  · rcases (h4 y hy).2.1 with z | z
    · exact absurd e z
    · intro m
      rw [← Bool.not_eq_true, List.contains_iff_mem] at z
      exact z m
  · rcases (h4 y hy).2.2 with z | z
    · exact absurd e z
    · exact z
/-! ### isinstance by a table -/
def isB : String → D → Bool
  | "int", .int _ => true
  | "int", .bl _ => true
  | "bool", .bl _ => true
  | "str", .str _ => true
  | "tuple", .tup _ => true
  | "list", .lst _ => true
  | _, _ => false
def kinds : List String := ["int", "bool", "str", "tuple", "list"]
theorem kit_isB {T : String} (hT : T ∈ kinds) {d : D} {t : String} (h : tyD d = some t) : kitB t T = some (isB T d) := by
  simp only [kinds, List.mem_cons, List.not_mem_nil, or_false] at hT
  rcases hT with rfl | rfl | rfl | rfl | rfl <;> cases d <;> simp [tyD] at h <;> subst h <;> first | (show kitB _ _ = some true; decide +kernel) | (show kitB _ _ = some false; decide +kernel)
theorem l_isi {Q : DV → Prop} {x : DV} {d : D} {T : String} (hx : x.dat = some d) (hk : kindD d = true) (hT : T ∈ kinds) (q : Q (.d (.bl (isB T d)))) : isiR [x, .d (.raw (.ty T))] Q := by
  obtain ⟨t, ht⟩ := Option.isSome_iff_exists.mp hk
  exact isi_ok hx ht (kit_isB hT ht) q
def isBs (Ts : List String) (d : D) : Bool := Ts.any fun T => isB T d
theorem kits_isB {d : D} {t : String} (h : tyD d = some t) : ∀ {Ts : List String}, (∀ T ∈ Ts, T ∈ kinds) → kitBs t Ts = some (isBs Ts d)
  | [], _ => rfl
  | T :: Ts, hT => by
    unfold kitBs
    rw [kit_isB (hT T (List.mem_cons_self ..)) h, kits_isB h fun z hz => hT z (List.mem_cons_of_mem _ hz)]
    have e : isBs (T :: Ts) d = (isB T d || isBs Ts d) := rfl
    rw [e]
    cases isB T d <;> rfl
theorem l_isis {Q : DV → Prop} {x : DV} {d : D} {ts : List D} {Ts : List String} (hx : x.dat = some d) (hk : kindD d = true) (h2 : tysD ts = some Ts) (hT : ∀ T ∈ Ts, T ∈ kinds) (q : Q (.d (.bl (isBs Ts d)))) : isiTR [x, .d (.tup ts)] Q := by
  obtain ⟨t, ht⟩ := Option.isSome_iff_exists.mp hk
  exact l_isiT hx h2 ht (kits_isB ht hT) q
/-! ### readings of _law_fields -/
def strsA : List Str → TA
  | [] => tNil
  | s :: r => tCons (tC (.str s)) (strsA r)
theorem strsA_ok {σ : L2.St} {H : Hp} : ∀ (ss : List Str) {R : List V → Hp → Prop}, R (ss.map V.str) H → strsA ss σ H R
  | [], _, h => h
  | s :: r, R, h => strsA_ok (σ := σ) r (R := fun xs H2 => R (V.str s :: xs) H2) h
theorem in_strs (c : Str) : ∀ ss : List Str, inV (.str c) (ss.map V.str) = decide (c ∈ ss)
  | [] => rfl
  | s :: r => by
    unfold inV
    rw [List.map_cons, List.any_cons]
    have ih := in_strs c r
    unfold inV at ih
    rw [ih]
    show ((s == c) || decide (c ∈ r)) = _
    by_cases e : s = c
    · subst e; simp
    · have e' : ¬ c = s := fun z => e z.symm
      have : (s == c) = false := beq_eq_false_iff_ne.mpr e
      rw [this, Bool.false_or]
      simp [e']
section
variable {K : PySem.W.Frag} {p : Addr × Obj} {C dx : Addr} {fs : List (Str × V)} {c : Str} {σ : L2.St} {H : Hp}
theorem t_fld {f : Str} {v : V} {Q : VK} (px : PinX K p C dx) (no : PySem.W.findIn K (.ref C) f = some none) (hd : H dx = some (.xd fs)) (hσ : σ[0]? = some (some (.ref p.1))) (l : fs.lookup f = some v) (q : Q v H) : tXfP K p f (tVar 0) σ H Q :=
  ⟨.ref p.1, hσ, rfl, C, dx, fs, v, px, no, hd, l, q⟩
theorem t_in (ss : List Str) {R : Bool → Hp → Prop} (px : PinX K p C dx) (no : PySem.W.findIn K (.ref C) "code" = some none) (hd : H dx = some (.xd fs)) (hσ : σ[0]? = some (some (.ref p.1))) (lc : fs.lookup ("code" : Str) = some (.str c)) (hl : ss.length ≤ 1000)
    (h : ∀ l, H l = none → R (decide (c ∈ ss)) (upd H l (.tup (ss.map V.str)))) : tTest (tOp (rIn K false) (tXfP K p "code" (tVar 0)) (tTup (strsA ss))) σ H R := by
  show tXfP K p "code" (tVar 0) σ H (fun x H1 => tTup (strsA ss) σ H1 fun y H2 => rIn K false x y H2 fun x H' => ∃ k, x = .bl k ∧ R k H')
  refine t_fld px no hd hσ lc ?_
  refine strsA_ok ss ⟨by rw [List.length_map, sizeLine_eq]; omega, fun l nl => ⟨l, ss.map V.str, rfl, .inr (SqT.of upd_same), rfl, ?_, _, rfl, ?_⟩⟩
  · rw [List.all_eq_true]
    intro v hv
    obtain ⟨s, _, rfl⟩ := List.mem_map.mp hv
    rfl
  · have e : (if false = true then !inV (.str c) (ss.map V.str) else inV (.str c) (ss.map V.str)) = decide (c ∈ ss) := by rw [if_neg Bool.false_ne_true]; exact in_strs c ss
    rw [e]
    exact h l nl
theorem t_eq (s : Str) {R : Bool → Hp → Prop} (px : PinX K p C dx) (no : PySem.W.findIn K (.ref C) "code" = some none) (hd : H dx = some (.xd fs)) (hσ : σ[0]? = some (some (.ref p.1))) (lc : fs.lookup ("code" : Str) = some (.str c)) (h : R (decide (c = s)) H) :
    tTest (tOp rEq (tXfP K p "code" (tVar 0)) (tC (.str s))) σ H R := by
  show tXfP K p "code" (tVar 0) σ H (fun x H1 => rEq x (.str s) H1 fun x H' => ∃ k, x = .bl k ∧ R k H')
  refine t_fld px no hd hσ lc ⟨rfl, _, rfl, ?_⟩
  rw [decS]; exact h
end
theorem l_raise1 {C : Addr} {ps : List Str} {fs : List (Str × (Str ⊕ Str))} {ta : TDA} {E : EndsD} {sl s1 : DSt} {xs : List D} {ds : List DV} (hd : dats ds = some xs) (h : E.xc (.ref C) (xdD ps fs xs) s1) (hl : xs.length = ps.length := by rfl) : (match dats ds with
  | some xs => xs.length = ps.length ∧ E.xc (.ref C) (xdD ps fs xs) s1
  | none => False) := by rw [hd]; exact ⟨hl, h⟩
end DL

set_option Elab.async false
set_option linter.all false
set_option maxRecDepth 100000
set_option autoImplicit false
set_option maxHeartbeats 2000000
/-! what the head says of own exceptions -/
namespace DL
open PySem PySem.Spec PyProof.Rows L2
abbrev XTxt := Arguments × List Stmt × Scope
structure XSpec where
  name : Str
  base : Nat
  flds : List Str
  text : XTxt
def xBase : Nat → String × String × String × List Value
  | 0 => ("ValueError", "ValueError.__new__", "ValueError.__init__", [.type "ValueError", .type "Exception", .type "BaseException", .type "object"])
  | 1 => ("LookupError", "LookupError.__new__", "LookupError.__init__", [.type "LookupError", .type "Exception", .type "BaseException", .type "object"])
  | _ => ("IndexError", "IndexError.__new__", "IndexError.__init__", [.type "IndexError", .type "LookupError", .type "Exception", .type "BaseException", .type "object"])
theorem xBase_ok (n : Nat) : ExBase (xBase n).1 (xBase n).2.1 (xBase n).2.2.1 (xBase n).2.2.2 := by
  match n with
  | 0 => exact ⟨PySem.F.excBase_ValueError, PySem.W.kxs_ValueError, PySem.F.store_ValueError⟩
  | 1 => exact ⟨PySem.F.excBase_LookupError, PySem.W.kxs_LookupError, PySem.F.store_LookupError⟩
  | n + 2 => exact ⟨PySem.F.excBase_IndexError, PySem.W.kxs_IndexError, PySem.F.store_IndexError⟩
def initAt (K : PySem.W.Frag) (C : Addr) : Addr := match PySem.W.findIn K (.ref C) "__init__" with
  | some (some (.ref f)) => f
  | _ => 0
def exObs (K : PySem.W.Frag) (C : Addr) : Option XTxt := match K.lookup (initAt K C) with
  | some ⟨_, _, .func fd, _⟩ => (match fd.body with
    | .stmts b => some (fd.params, b, fd.scope)
    | _ => none)
  | _ => none
def nonV : Value → Bool
  | .none => true
  | _ => false
theorem nonV_ok {v : Value} (h : nonV v = true) : v = .none := by cases v <;> first | rfl | cases h
def fnShape (K : PySem.W.Frag) (file : Str) (fI C : Addr) : Bool := match K.lookup fI with
  | some ⟨_, _, .func fd, _⟩ => decide (fd.globals = mainGlobals) && (decide (fd.builtins = builtinsNs) && (nonV fd.defaults && (nonV fd.kwdefaults && (match fd.closure, fd.code with
    | [(x, cc)], .ref cda => decide (x = "__class__") && (PySem.W.codeIn K (.ref cda) fd.qualname && ((match K.lookup cda with
        | some ⟨_, _, .fields vs, _⟩ => (match (vs[2]? : Option Value) with
          | some (.str f _) => decide (f = file)
          | _ => false)
        | _ => false) && (match K.lookup cc with
        | some ⟨_, _, .cell (some (.ref D)), _⟩ => decide (D = C)
        | _ => false)))
    | _, _ => false))))
  | _ => false
theorem shape_ok {K : PySem.W.Frag} {file : Str} {C : Addr} {params : Arguments} {body : List Stmt} {scope : Scope} (h : fnShape K file (initAt K C) C = true) (e : exObs K C = some (params, body, scope)) :
    ∃ (oc : Value) (od : Option Addr) (osl : Array (Option Value)) (name qual : Str) (doc pm : Value) (an : Option Addr) (cda cc : Addr) (ct : Value) (vs : Array Value) (tf : Tok) (ccl cl : Value) (cdd cld : Option Addr) (ccs csl : Array (Option Value)),
    K.lookup (initAt K C) = some ⟨oc, od, .func (PySem.W.ksFn name qual params body scope .none .none doc pm an (.ref cda) ct cc), osl⟩ ∧ PySem.W.codeIn K (.ref cda) qual = true ∧ K.lookup cda = some ⟨ccl, cdd, .fields vs, ccs⟩ ∧ vs[2]? = some (.str file tf) ∧ K.lookup cc = some ⟨cl, cld, .cell (some (.ref C)), csl⟩ := by
  unfold fnShape at h
  unfold exObs at e
  split at h
  · rename_i oc od fd osl lk
    rw [lk] at e
    obtain ⟨nm, ql, pr, bd, sc, gl, cl, df, kd, doc, pm, an, cd, ct, bn⟩ := fd
    dsimp only at h e
    obtain ⟨h1, h⟩ := He.ba h
    obtain ⟨h2, h⟩ := He.ba h
    obtain ⟨h3, h⟩ := He.ba h
    obtain ⟨h4, h⟩ := He.ba h
    split at h
    · rename_i x cc cda
      obtain ⟨h5, h⟩ := He.ba h
      obtain ⟨h6, h⟩ := He.ba h
      obtain ⟨h7, h8⟩ := He.ba h
      split at e
      · rename_i b
        cases e
        have e1 := of_decide_eq_true h1
        have e2 := of_decide_eq_true h2
        have e5 := of_decide_eq_true h5
        have e3 := nonV_ok h3
        have e4 := nonV_ok h4
        subst e1 e2 e3 e4 e5
        split at h7
        · rename_i ccl cdd vs ccs lkc
          split at h7
          · rename_i f tf hv
            have e7 := of_decide_eq_true h7
            subst e7
            split at h8
            · rename_i cl cld D csl lcc
              have e8 := of_decide_eq_true h8
              subst e8
              exact ⟨_, _, _, _, _, _, _, _, _, _, _, _, _, _, _, _, _, _, _, lk, h6, lkc, hv, lcc⟩
            · cases h8
          · cases h7
        · cases h7
      · cases e
    · cases h
  · cases h
def csA (K : PySem.W.Frag) : List Value := [.ref (He.ga K "MilesError"), .ref (He.ga K "Missing"), .ref (He.ga K "NothingLeft")]
def xB (K : PySem.W.Frag) (file : Str) (ask : Bool) (e : XSpec) : Bool :=
  let C := He.ga K e.name
  let b := xBase e.base
  decide (PySem.W.findIn K (.ref C) "__setattr__" = some (some (.builtin "object.__setattr__"))) &&
  (PySem.W.excOver K C b.2.2.2 &&
  (PySem.W.hasDictIn K C &&
  (PySem.W.excInitIn K C b.2.2.2 b.2.1 &&
  (decide (PySem.W.findIn K (.ref C) "__init__" = some (some (.ref (initAt K C)))) &&
  (decide (PySem.W.typeIn K (.ref (initAt K C)) = some (.type "function")) &&
  (decide (PySem.W.ks_superIn K C C "__init__" = some (some (.builtin b.2.2.1))) &&
  (decide (PySem.W.subIn K (.ref C) (.type b.1) = some true) &&
  (decide (PySem.W.mroIn K C (.ref C) = some true) &&
  (decide (PySem.W.subIn K (.ref C) (.type "BaseException") = some true) &&
  (decide (PySem.W.typeIn K (.ref C) = some (.type "type")) &&
  (PySem.W.keepIn K (.ref C) &&
  (decide (PySem.W.nsIn K cStatics "thirdparty.any" = some none) &&
  (fnShape K file (initAt K C) C &&
  ((e.flds.all fun f => decide (PySem.W.takerIn K C f = some none)) &&
  (!ask || (xfB K C &&
  ((errFields.all fun f => decide (PySem.W.findIn K (.ref C) f = some none)) && decide (PySem.W.exmAny K (.ref C) (csA K) = some true))))))))))))))))))
structure XOk' (K : PySem.W.Frag) (file : Str) (ask : Bool) (e : XSpec) : Prop where
  k : ExK K file (He.ga K e.name) (initAt K (He.ga K e.name)) e.text.1 e.text.2.1 e.text.2.2 (xBase e.base).1 (xBase e.base).2.1 (xBase e.base).2.2.1 (xBase e.base).2.2.2
  t : ∀ f ∈ e.flds, PySem.W.takerIn K (He.ga K e.name) f = some none
  r : ask = true → ErrC K (csA K) (He.ga K e.name)
theorem xB_ok {K : PySem.W.Frag} {file : Str} {ask : Bool} {e : XSpec} (h : xB K file ask e = true) (ht : exObs K (He.ga K e.name) = some e.text) : XOk' K file ask e := by
  unfold xB at h
  dsimp only at h
  obtain ⟨h1, h⟩ := He.ba h
  obtain ⟨h2, h⟩ := He.ba h
  obtain ⟨h3, h⟩ := He.ba h
  obtain ⟨h4, h⟩ := He.ba h
  obtain ⟨h5, h⟩ := He.ba h
  obtain ⟨h6, h⟩ := He.ba h
  obtain ⟨h7, h⟩ := He.ba h
  obtain ⟨h8, h⟩ := He.ba h
  obtain ⟨h9, h⟩ := He.ba h
  obtain ⟨h10, h⟩ := He.ba h
  obtain ⟨h11, h⟩ := He.ba h
  obtain ⟨h12, h⟩ := He.ba h
  obtain ⟨h13, h⟩ := He.ba h
  obtain ⟨h14, h⟩ := He.ba h
  obtain ⟨h15, h16⟩ := He.ba h
  refine ⟨⟨⟨of_decide_eq_true h1, h2, h3⟩, h4, of_decide_eq_true h5, of_decide_eq_true h6, of_decide_eq_true h7, of_decide_eq_true h8, of_decide_eq_true h9, of_decide_eq_true h10, of_decide_eq_true h11, h12, of_decide_eq_true h13, shape_ok h14 ht⟩, fun f hf => of_decide_eq_true (List.all_eq_true.mp h15 f hf), fun ha => ?_⟩
  rw [ha] at h16
  obtain ⟨z1, z⟩ := He.ba (show (xfB K (He.ga K e.name) && _) = true from h16)
  obtain ⟨z2, z3⟩ := He.ba z
  exact ⟨xfB_ok z1, fun f hf => of_decide_eq_true (List.all_eq_true.mp z2 f hf), of_decide_eq_true z3⟩
/-- the class, from what the head says and from its text -/
theorem XOk'.cls {K : PySem.W.Frag} {file : Str} {ask : Bool} {e : XSpec} {P : Program} {mg : Str → Option Value} {self : Str} {ps : List Str} {fs : List (Str × (Str ⊕ Str))} (h : XOk' K file ask e) (T : ExT e.text.2.1 e.text.1 e.text.2.2 self ps fs) (hf : ((P.main.file : Str) == file) = true) (ht : (P.main.scope.names.lookup ("super" : Str)).isSome = false)
    (hb : ∀ (e' : Addr) (us : List Value), us.length = ps.length → ∀ (name qual : Str) (doc pm : Value) (an : Option Addr) (cda ct : Value) (cc : Addr), bindArgs (PySem.W.ksFn name qual e.text.1 e.text.2.1 e.text.2.2 .none .none doc pm an cda ct cc) ⟨.ref e' :: us, []⟩ = pure ((self :: ps).zip (.ref e' :: us)))
    (hfl : ∀ f ∈ fs, f.1 ∈ e.flds) (ne : ∀ vs, xdV ps fs vs ≠ []) (su : mg ("super" : Str) = none) (ln : ps.length ≤ 1000) : XCls P K mg (He.ga K e.name) ps fs :=
  ⟨⟨file, _, _, _, _, _, _, _, _, self, xBase_ok _, h.k, T, hf, ht, hb⟩, fun f hf => h.t f.1 (hfl f hf), ne, su, h.k.kC, ln⟩

/-! ### the Hook with exceptions -/
structure LY extends LX where
  file : Str
  ask : Bool
  ex : List XSpec
abbrev AlY : Type := Bool × He.AlD × List (Option XTxt)
def LY.ok (l : LY) (g : Addr → Option Obj) (K : PySem.W.Frag) : Bool := l.toLX.ok g K && l.ex.all fun e => xB K l.file l.ask e
def valY (l : LY) (fn : List He.DefD) : AlY := (true, He.valD fn, l.ex.map fun e => some e.text)
structure SaysY (l : LY) (fa : List He.Fa) (fn : List He.DefD) (h : Heap) (K : PySem.W.Frag) : Prop extends SaysX l.toLX fa fn h K where
  x : ∀ e ∈ l.ex, XOk' K l.file l.ask e
def obsYG (n : Nat) (l : LY) (fa : List He.Fa) (fn : List He.DefD) (g : Addr → Option Obj) : AlY := (l.ok g (He.frT g (asX g n)), He.obsD fa fn (He.frT g (asX g n)), l.ex.map fun e => exObs (He.frT g (asX g n)) (He.ga (He.frT g (asX g n)) e.name))
theorem saysY_of {n : Nat} {l : LY} {fa : List He.Fa} {fn : List He.DefD} {h : Heap} (e : obsYG n l fa fn h.get? = valY l fn) : SaysY l fa fn h (He.frT h.get? (asX h.get? n)) := by
  have e1 : l.ok h.get? (He.frT h.get? (asX h.get? n)) = true := congrArg (fun z : AlY => z.1) e
  have e2 : He.obsD fa fn (He.frT h.get? (asX h.get? n)) = He.valD fn := congrArg (fun z : AlY => z.2.1) e
  have e3 : (l.ex.map fun e => exObs (He.frT h.get? (asX h.get? n)) (He.ga (He.frT h.get? (asX h.get? n)) e.name)) = l.ex.map fun e => some e.text := congrArg (fun z : AlY => z.2.2) e
  obtain ⟨a1, a2⟩ := He.ba e1
  have b : obsXG n l.toLX fa fn h.get? = valX fn := by
    show (l.toLX.ok h.get? (He.frT h.get? (asX h.get? n)), He.obsD fa fn (He.frT h.get? (asX h.get? n))) = (true, He.valD fn)
    rw [a1, e2]
  exact { says_of b with x := fun e he => xB_ok (List.all_eq_true.mp a2 e he) (List.map_inj_left.mp e3 e he) }
def hookY (n : Nat) (l : LY) (fa : List He.Fa) (fn : List He.DefD) : PySem.W.Hook where
  α := AlY
  obs := fun s => obsYG n l fa fn s.heap.get?
  val := fun _ => valY l fn
  says := fun _ h => ∃ K : PySem.W.Frag, K.In h ∧ SaysY l fa fn h K
  of := fun _ _ e => ⟨_, He.frT_in, saysY_of e⟩
  keeps := fun _ _ _ ⟨K, hK, c⟩ k => ⟨K, PySem.W.Frag.In.keeps hK k, ⟨⟨c.c, c.s, c.tc, c.tn, fun p hp => k _ _ (c.te p hp), c.tu⟩, c.x⟩⟩
theorem obsYG_eq {n : Nat} {l : LY} {fa : List He.Fa} {fn : List He.DefD} {g : Addr → Option Obj} {s : Shared} (h : ∀ a, g a = s.heap.get? a) : obsYG n l fa fn g = (hookY n l fa fn).obs s := by
  have e : g = s.heap.get? := funext h
  rw [e] <;> rfl
end DL

set_option Elab.async false
set_option linter.all false
set_option maxRecDepth 100000
set_option autoImplicit false
set_option maxHeartbeats 2000000
/-! trees that are shown: a plain measure -/
namespace DL
open PySem PySem.Spec PyProof.Rows L2
mutual
/-- a bound on the shown text; every int counts b + 1 -/
def wt (b : Nat) : D → Nat
  | .int _ => b + 1
  | .str z => 10 * z.length + 2
  | .lst ds => wts b ds + 3
  | .tup ds => wts b ds + 3
  | _ => 5
def wts (b : Nat) : List D → Nat
  | [] => 0
  | d :: r => wt b d + 2 + wts b r
end
mutual
def dep : D → Nat
  | .lst ds => deps ds + 1
  | .tup ds => deps ds + 1
  | _ => 0
def deps : List D → Nat
  | [] => 0
  | d :: r => max (dep d) (deps r)
end
mutual
def Fine (b : Nat) : D → Prop
  | .int i => i.natAbs < 10 ^ b
  | .str z => ∀ c ∈ z.cps.toList, c < 0x110000
  | .lst ds => Fines b ds
  | .tup ds => Fines b ds
  | .non => True
  | .bl _ => True
  | .ins _ _ => False
  | .dk _ => False
  | .dt _ => False
  | .any => False
  | .raw _ => False
def Fines (b : Nat) : List D → Prop
  | [] => True
  | d :: r => Fine b d ∧ Fines b r
end
theorem Shw.intN {i : Int} {b : Nat} (hk : 0 < b) (h2 : b ≤ 500) (h : i.natAbs < 10 ^ b) : Shw 0 (b + 1) (.int i) (.int i) := by
  refine ⟨rfl, by simp [PyData.canLay0], by simp [PyData.depth], ?_, ?_⟩
  · simp only [PyData.showable]
    refine decide_eq_true ?_
    rcases Nat.eq_zero_or_pos i.natAbs with z | z
    · rw [z]; decide
    refine (Nat.log2_lt (by omega)).mpr ?_
    refine Nat.lt_of_lt_of_le h (Nat.le_trans (Nat.pow_le_pow_right (by decide) h2) ?_)
    decide +kernel
  · simp only [PyData.shown]
    rcases Int.lt_or_le i 0 with z | z
    · have e : i = -((i.natAbs : Nat) : Int) := by omega
      have h0 : (toString (i.natAbs : Int) : Str).length ≤ b := toString_length_le (by omega) hk (by
        have : ((i.natAbs : Nat) : Int) < ((10 ^ b : Nat) : Int) := Int.ofNat_lt.mpr h
        simpa using this)
      rw [e]
      generalize hm : i.natAbs = m at *
      cases m with
      | zero => omega
      | succ m =>
        have e2 : (toString (-((m + 1 : Nat) : Int)) : String) = "-" ++ toString ((m + 1 : Nat) : Int) := rfl
        have e3 : ((toString (-((m + 1 : Nat) : Int)) : String) : Str).length = ((toString ((m + 1 : Nat) : Int) : String) : Str).length + 1 := by
          rw [e2, PySem.ofString_length, PySem.ofString_length, String.length_append]
          have : ("-" : String).length = 1 := rfl
          omega
        rw [e3]
        omega
    · have := toString_length_le z hk (v := i) (by
        have : ((i.natAbs : Nat) : Int) < ((10 ^ b : Nat) : Int) := Int.ofNat_lt.mpr h
        rw [Int.natAbs_of_nonneg z] at this
        simpa using this)
      omega
structure ShwS (n L : Nat) (ds : List D) (ps : List PyData) : Prop where
  py : D.pyAll ds = some ps
  lay : PyData.canLayAll0 ps = true
  dp : PyData.depthAll ps ≤ n
  sw : PyData.showableAll ps = true
  ln : ((PyData.shownAll ps).map fun t => t.length + 2).sum ≤ L
theorem textFrom_sum : ∀ (ts : List Str) (k : Nat) (acc : Str), (PySem.textFrom k acc ts).length ≤ acc.length + (ts.map fun t => t.length + 2).sum
  | [], k, acc => by show acc.length ≤ _; simp
  | t :: r, k, acc => by
    have h1 := textFrom_sum r (k + 1) (acc ++ (if k > 0 then ", " else "" : String) ++ t)
    have e : (acc ++ (if k > 0 then ", " else "" : String) ++ t).length = acc.length + (if k > 0 then 2 else 0) + t.length := by
      rw [strLen_append, strLen_append]
      split <;> rfl
    rw [e] at h1
    show (PySem.textFrom (k + 1) (acc ++ (if k > 0 then ", " else "" : String) ++ t) r).length ≤ _
    rw [List.map_cons, List.sum_cons]
    have h3 : (if k > 0 then 2 else 0) ≤ 2 := by split <;> omega
    omega
theorem join_sum : ∀ ts : List Str, (Str.join ", " ts).length ≤ (ts.map fun t => t.length + 2).sum
  | [] => by show 0 ≤ _; omega
  | [x] => by show x.length ≤ x.length + 2 + 0; omega
  | x :: y :: r => by
    have h1 := join_sum (y :: r)
    show (x ++ ", " ++ Str.join ", " (y :: r)).length ≤ _
    rw [strLen_append, strLen_append, List.map_cons, List.sum_cons]
    have e2 : ((", " : String) : Str).length = 2 := rfl
    omega
theorem ShwS.lst {n L : Nat} {ds : List D} {ps : List PyData} (h : ShwS n L ds ps) : Shw (n + 1) (L + 3) (.lst ds) (.list ps) := by
  refine ⟨by unfold D.py; rw [h.py]; rfl, by unfold PyData.canLay0; exact h.lay, by unfold PyData.depth; have := h.dp; omega, by unfold PyData.showable; exact h.sw, ?_⟩
  unfold PyData.shown listText
  rw [strLen_append]
  have := textFrom_sum (PyData.shownAll ps) 0 "["
  have e1 : (("[" : String) : Str).length = 1 := rfl
  have e2 : (("]" : String) : Str).length = 1 := rfl
  have := h.ln
  omega
theorem ShwS.tup {n L : Nat} {ds : List D} {ps : List PyData} (h : ShwS n L ds ps) : Shw (n + 1) (L + 3) (.tup ds) (.tuple ps) := by
  refine ⟨by unfold D.py; rw [h.py]; rfl, by unfold PyData.canLay0; exact h.lay, by unfold PyData.depth; have := h.dp; omega, by unfold PyData.showable; exact h.sw, ?_⟩
  unfold PyData.shown tupleText
  rw [strLen_append, strLen_append]
  have e1 : (("(" : String) : Str).length = 1 := rfl
  have e2 : ((if (PyData.shownAll ps).length == 1 then ",)" else ")" : String) : Str).length ≤ 2 := by split <;> decide
  have e3 := join_sum (PyData.shownAll ps)
  have := h.ln
  omega
section
variable {b : Nat} (hb : 0 < b) (h5 : b ≤ 500)
include hb h5
mutual
theorem fine_shw : ∀ d : D, Fine b d → ∃ p, Shw (dep d) (wt b d) d p
  | .non, _ => ⟨_, Shw.non.mono (Nat.le_refl _) (by show 4 ≤ 5; omega)⟩
  | .bl x, _ => ⟨_, Shw.bl x⟩
  | .int i, h => ⟨_, Shw.intN hb h5 (by simpa only [Fine] using h)⟩
  | .str z, h => ⟨_, Shw.str (by simpa only [Fine] using h) (Nat.le_refl _)⟩
  | .lst ds, h => let ⟨ps, e⟩ := fine_shws ds (by simpa only [Fine] using h); ⟨_, (by simpa only [dep, wt] using e.lst)⟩
  | .tup ds, h => let ⟨ps, e⟩ := fine_shws ds (by simpa only [Fine] using h); ⟨_, (by simpa only [dep, wt] using e.tup)⟩
  | .ins _ _, h => by simp [Fine] at h
  | .dk _, h => by simp [Fine] at h
  | .dt _, h => by simp [Fine] at h
  | .any, h => by simp [Fine] at h
  | .raw _, h => by simp [Fine] at h
theorem fine_shws : ∀ ds : List D, Fines b ds → ∃ ps, ShwS (deps ds) (wts b ds) ds ps
  | [], _ => ⟨[], by simp [D.pyAll], by simp [PyData.canLayAll0], by simp [PyData.depthAll], by simp [PyData.showableAll], by simp [PyData.shownAll]⟩
  | d :: r, h => by
    rw [Fines] at h
    obtain ⟨p, e1⟩ := fine_shw d h.1
    obtain ⟨ps, e2⟩ := fine_shws r h.2
    refine ⟨p :: ps, ?_, ?_, ?_, ?_, ?_⟩
    · unfold D.pyAll; rw [e1.py, e2.py]
    · unfold PyData.canLayAll0; rw [e1.lay, e2.lay]; rfl
    · unfold PyData.depthAll; rw [deps]
      have := e1.dp; have := e2.dp
      omega
    · unfold PyData.showableAll; rw [e1.sw, e2.sw]; rfl
    · unfold PyData.shownAll; rw [wts, List.map_cons, List.sum_cons]
      have := e1.ln; have := e2.ln
      omega
end
theorem fine_lst {ds : List D} (h : Fines b ds) (h1 : deps ds ≤ 60) (h2 : wts b ds ≤ 16000000) : ∃ p, Shows (.lst ds) p := by
  obtain ⟨p, e⟩ := fine_shw hb h5 (.lst ds) (by simpa only [Fine] using h)
  refine ⟨p, e.shows (.inl ⟨_, rfl⟩) (by rw [dep]; omega) (by rw [wt]; have : szl = 16777216 := rfl; omega)⟩
theorem fine_tup {ds : List D} (h : Fines b ds) (h1 : deps ds ≤ 60) (h2 : wts b ds ≤ 16000000) : ∃ p, Shows (.tup ds) p := by
  obtain ⟨p, e⟩ := fine_shw hb h5 (.tup ds) (by simpa only [Fine] using h)
  refine ⟨p, e.shows (.inr ⟨_, rfl⟩) (by rw [dep]; omega) (by rw [wt]; have : szl = 16777216 := rfl; omega)⟩
end
theorem asg_par {ta : TDA} {u : TDS} {E : EndsD} {sl : DSt} {i j : Nat} (R : D → D → Prop) (h : ∀ Q : List DV → DSt → Prop, (∀ x y, R x y → Q [.d x, .d y] sl) → ta sl Q E.xc) (q : ∀ x y, R x y → u E ((sl.set i (some (.d x))).set j (some (.d y)))) : dSeq (dAsg (dCB tupR ta) (gTupD 2 (gConsD (gD i) (gConsD (gD j) gNilD)))) u E sl :=
  h _ fun x y r => l_tup rfl rfl ⟨rfl, q x y r⟩
theorem fnil {b : Nat} : Fines b [] := by simp [Fines]
theorem fcons {b : Nat} {d : D} {r : List D} (h : Fine b d) (t : Fines b r) : Fines b (d :: r) := by rw [Fines]; exact ⟨h, t⟩
theorem fint {b : Nat} {i : Int} (h : i.natAbs < 10 ^ b) : Fine b (.int i) := by rw [Fine]; exact h
theorem fstr {b : Nat} {z : Str} (h : ∀ c ∈ z.cps.toList, c < 0x110000 := by decide +kernel) : Fine b (.str z) := by rw [Fine]; exact h
theorem fnon {b : Nat} : Fine b .non := by simp [Fine]
theorem fbl {b : Nat} {x : Bool} : Fine b (.bl x) := by simp [Fine]
theorem ftup {b : Nat} {ds : List D} (h : Fines b ds) : Fine b (.tup ds) := by rw [Fine]; exact h
theorem flst {b : Nat} {ds : List D} (h : Fines b ds) : Fine b (.lst ds) := by rw [Fine]; exact h
theorem frat {b : Nat} {q : Rat} (h1 : q.num.natAbs < 10 ^ b) (h2 : q.den < 10 ^ b) : Fine b (rD q) := ftup (fcons (fint h1) (fcons (fint h2) fnil))
theorem chk_cut {te : TD} {t u : TDS} {E : EndsD} {sl : DSt} (h : ∀ Q : DV → DSt → Prop, Q (.d (.bl true)) sl → te sl Q E.xc) (q : u E sl) : dSeq (dIf (dNot (dTru te)) t dNext) u E sl := h _ (l_truB (brF q))
theorem chk_end {te : TD} {t : TDS} {E : EndsD} {sl : DSt} (h : ∀ Q : DV → DSt → Prop, Q (.d (.bl true)) sl → te sl Q E.xc) (q : E.nx sl) : dIf (dNot (dTru te)) t dNext E sl := h _ (l_truB (brF q))
theorem par_cutS {ta : TDA} {u : TDS} {E : EndsD} {sl : DSt} {i j : Nat} (R : D → D → Prop) (h : ∀ Q : List DV → DSt → Prop, (∀ x y, R x y → Q [.d x, .d y] sl) → ta sl Q E.xc) (q : ∀ x y, R x y → u E ((sl.set i (some (.d x))).set j (some (.d y)))) : dSeq (dPar i j ta) u E sl := h _ fun x y r => q x y r
/-- alike, shown -/
theorem same_lst (b : Nat) {Q : DV → Prop} {E : XE'} {ds es : List D} (he : ds = es) (h : Fines b es) (q : Q (.d (.bl true))) (h1 : deps es ≤ 60 := by first | decide | exact Nat.le_of_ble_eq_true rfl) (h2 : wts b es ≤ 16000000 := by first | decide | exact Nat.le_of_ble_eq_true rfl) (hb : 0 < b := by decide) (h5 : b ≤ 500 := by decide) : spSame [.d (.lst ds), .d (.lst es)] Q E := by
  subst he
  obtain ⟨p, s⟩ := fine_lst hb h5 h h1 h2
  exact same_true s q
theorem same_tup (b : Nat) {Q : DV → Prop} {E : XE'} {ds es : List D} (he : ds = es) (h : Fines b es) (q : Q (.d (.bl true))) (h1 : deps es ≤ 60 := by first | decide | exact Nat.le_of_ble_eq_true rfl) (h2 : wts b es ≤ 16000000 := by first | decide | exact Nat.le_of_ble_eq_true rfl) (hb : 0 < b := by decide) (h5 : b ≤ 500 := by decide) : spSame [.d (.tup ds), .d (.tup es)] Q E := by
  subst he
  obtain ⟨p, s⟩ := fine_tup hb h5 h h1 h2
  exact same_true s q
end DL

set_option Elab.async false
set_option linter.all false
set_option maxRecDepth 100000
set_option autoImplicit false
set_option maxHeartbeats 2000000
/-! own classes: isinstance, ==, !=, repr, len, truth -/
namespace DL
open PySem PySem.Spec PyProof.Rows L2
def kinds6 : List String := ["NoneType", "bool", "int", "str", "list", "tuple"]
/-- what the head says of an own class whose instances are asked by such names -/
structure CInst (K : PySem.W.Frag) (C : Addr) : Prop where
  cl : Cls K C
  gc : PySem.W.findIn K (.ref C) "__class__" = some (some (.builtin "object.__class__"))
  gs : PySem.W.specialIn K (.builtin "object.__class__") "__get__" = some (some (.builtin "getset_descriptor.__get__"))
  gt : PySem.W.takesIn K (.builtin "object.__class__") = some true
  mo : PySem.W.mroIn K C (.type "object") = some true
  own : PySem.W.kitOne K (.ref C) (.ref C) = some true
  no : ∀ t ∈ kinds6, PySem.W.kitOne K (.type t) (.ref C) = some false
  ty : ∀ t ∈ kinds6, PySem.W.kitOne K (.ref C) (.type t) = some false
  sub : ∀ t ∈ kinds6, PySem.W.subIn K (.type t) (.ref C) = some false
  ne : PySem.W.findIn K (.ref C) "__ne__" = some (some (.builtin "object.__ne__"))
def cB (K : PySem.W.Frag) (C : Addr) : Bool :=
  decide (PySem.W.plainGet K C Str.empty = true) && (PySem.W.hasDictIn K C && (PySem.W.plainOver K C && (decide (PySem.W.findIn K (.ref C) "__setattr__" = some (some (.builtin "object.__setattr__"))) &&
  (decide (PySem.W.findIn K (.ref C) "__class__" = some (some (.builtin "object.__class__"))) &&
  (decide (PySem.W.specialIn K (.builtin "object.__class__") "__get__" = some (some (.builtin "getset_descriptor.__get__"))) &&
  (decide (PySem.W.takesIn K (.builtin "object.__class__") = some true) &&
  (decide (PySem.W.mroIn K C (.type "object") = some true) &&
  (decide (PySem.W.kitOne K (.ref C) (.ref C) = some true) &&
  ((kinds6.all fun t => decide (PySem.W.kitOne K (.type t) (.ref C) = some false)) &&
  ((kinds6.all fun t => decide (PySem.W.kitOne K (.ref C) (.type t) = some false)) &&
  ((kinds6.all fun t => decide (PySem.W.subIn K (.type t) (.ref C) = some false)) &&
  decide (PySem.W.findIn K (.ref C) "__ne__" = some (some (.builtin "object.__ne__"))))))))))))))
theorem cB_ok {K : PySem.W.Frag} {C : Addr} (h : cB K C = true) : CInst K C := by
  unfold cB at h
  obtain ⟨h1, h⟩ := He.ba h
  obtain ⟨h2, h⟩ := He.ba h
  obtain ⟨h3, h⟩ := He.ba h
  obtain ⟨h4, h⟩ := He.ba h
  obtain ⟨h5, h⟩ := He.ba h
  obtain ⟨h6, h⟩ := He.ba h
  obtain ⟨h7, h⟩ := He.ba h
  obtain ⟨h8, h⟩ := He.ba h
  obtain ⟨h9, h⟩ := He.ba h
  obtain ⟨h10, h⟩ := He.ba h
  obtain ⟨h11, h⟩ := He.ba h
  obtain ⟨h12, h13⟩ := He.ba h
  exact ⟨⟨of_decide_eq_true h1, h2, h3, of_decide_eq_true h4⟩, of_decide_eq_true h5, of_decide_eq_true h6, of_decide_eq_true h7, of_decide_eq_true h8, of_decide_eq_true h9, fun t ht => of_decide_eq_true (List.all_eq_true.mp h10 t ht),
    fun t ht => of_decide_eq_true (List.all_eq_true.mp h11 t ht), fun t ht => of_decide_eq_true (List.all_eq_true.mp h12 t ht), of_decide_eq_true h13⟩
section
variable {K : PySem.W.Frag} {G H : Hp} {so : So} {v : V} {dv : DV} {C : Addr} {fs : List (Str × D)}
theorem ty_ins (h : HRep K G so H) (w : VOk K G so H v dv) (c : CInst K C) (e : dv.inst = some (C, fs)) : TyX K H v (.ref C) := by
  obtain ⟨a, dx, vs, rfl, h1, _⟩ := w.inst h e
  exact .base (.ins h1 c.cl c.gc c.gs c.gt c.mo)
end
theorem ty_kind {d : D} {t : String} (h : tyD d = some t) : t ∈ kinds6 := by
  cases d <;> cases h <;> decide
/-- isinstance(v, C), C an own class -/
@[irreducible] def isiCR (K : PySem.W.Frag) (C : Addr) : List DV → (DV → Prop) → Prop
  | [v, .d (.raw (.ref D))], Q => D = C ∧ CInst K C ∧ match v.inst with
    | some (B, _) => B = C ∧ Q (.d (.bl true))
    | none => match v.dat with
      | some d => (tyD d).isSome = true ∧ Q (.d (.bl false))
      | none => False
  | _, _ => False
theorem sem_isiC {K : PySem.W.Frag} {C : Addr} : CallSem K (rIsi K) (isiCR K C) := by
  intro G so H xs dxs Q R h w q k
  unfold isiCR at q
  split at q
  · obtain ⟨v, v', rfl, w1, w2, _⟩ := w.v2
    cases w2
    obtain ⟨rfl, c, q⟩ := q
    split at q
    · rename_i B fs e
      obtain ⟨rfl, q⟩ := q
      exact ⟨_, _, _, _, true, rfl, .own _, ty_ins h w1 c e, c.own, k _ H G _ (.dat h (.bl _)) q⟩
    · split at q
      · rename_i d e
        obtain ⟨et, q⟩ := q
        obtain ⟨t, et⟩ := Option.isSome_iff_exists.mp et
        exact ⟨_, _, _, _, false, rfl, .own _, ty_ok h w1 e et, c.no t (ty_kind et), k _ H G _ (.dat h (.bl _)) q⟩
      · exact q.elim
  · exact q.elim
theorem l_isiC1 {K : PySem.W.Frag} {C : Addr} {v : DV} {fs : List (Str × D)} {Q : DV → Prop} (c : CInst K C) (h : v.inst = some (C, fs)) (q : Q (.d (.bl true))) : isiCR K C [v, .d (.raw (.ref C))] Q := by
  unfold isiCR
  refine ⟨rfl, c, ?_⟩
  rw [h]
  exact ⟨rfl, q⟩
theorem l_isiC0 {K : PySem.W.Frag} {C : Addr} {v : DV} {d : D} {Q : DV → Prop} (c : CInst K C) (h0 : v.inst = none) (h : v.dat = some d) (ht : (tyD d).isSome = true) (q : Q (.d (.bl false))) : isiCR K C [v, .d (.raw (.ref C))] Q := by
  unfold isiCR
  refine ⟨rfl, c, ?_⟩
  rw [h0, h]
  exact ⟨ht, q⟩
/-! ### a def of the class, called by its name with underscores -/
section
variable {X : Cx} {k : Nat} {f C : Addr} {fd : FuncData} {ps : List Str} {sp : SpD}
/-- the def runs, somewhere below; it lets nothing out -/
theorem run_dun {pins : List (Addr × Obj)} {σ : L2.St} {H : Hp} {s : Shared} {Q : VK} {A : Around} {us : List Value} {vs : List V} (F : FnG X.prog X.w X.K X.mg X.base k f fd ps sp) (hr : Room k A) (hg : A.guards = some []) (hf : A.frames = X.A.frames) (hb : Binds X.K fd ps [])
    (I : Inv X pins σ H s) (r : Vals vs us) (q : upSp X.K sp vs H Q fun _ _ _ => False) :
    wpAny (model X.prog X.w) A (call (.ref f) us) (EP X pins σ Q) X.xe s := by
  have e := I.env0
  have e0 : Env0 X.prog X.w X.K X.mg X.base A X.stack s H := ⟨by rw [hf]; exact e.frames, e.mod, e.bs, e.bsz, e.funs, e.frf, e.hok, e.bare⟩
  have hl : us.length = ps.length := by
    obtain ⟨G, so, as, QD, ED, h, w, z, _⟩ := q
    rw [← r.length, w.length]
    exact F.len _ _ _ z
  refine wpAny_call (codeAny_mono (F.run A X.stack s H ⟨us, []⟩ us vs Q (fun _ _ _ => False) hr hg e0 (by
    have := hb s us I.kIn (by simpa using hl)
    simpa using this) r q) fun r s' hz => ?_)
  cases r with
  | error e =>
    obtain ⟨a, B, H', cls, d, _, _, _, _, _, _, _, z⟩ := hz
    exact z.elim
  | ok fl =>
    cases fl with
    | ret u => exact I.after hz
    | next => exact False.elim hz
    | brk => exact False.elim hz
    | cont => exact False.elim hz
/-! repr -/
def rReprI (K : PySem.W.Frag) (C : Addr) (sp : SpD) : List V → Hp → VK → Prop := fun xs H Q => ∃ a dx fs, xs = [.ref a] ∧ H a = some (.ins C dx fs) ∧ upSp K sp xs H (fun v H' => ∃ z, v = .str z ∧ Q v H') fun _ _ _ => False
theorem call_reprI (hm : Meth X.K C "__repr__" f) (F : FnG X.prog X.w X.K X.mg X.base k f fd ps sp) (hr : Room (k + 1) X.A) (hg : X.A.guards = some []) (hb : Binds X.K fd ps []) : CallR X (.builtin "repr") (rReprI X.K C sp) := by
  intro pins s σ H xs us Q I r h
  obtain ⟨a, dx, fs, rfl, e, q⟩ := h
  obtain ⟨u, rfl, ru⟩ : ∃ u, us = [u] ∧ RelV (.ref a) u := by
    cases r with
    | cons ru t => cases t; exact ⟨_, rfl, ru⟩
  cases ru
  obtain ⟨mA, J, _⟩ := ins_get I.hok e
  obtain ⟨od, J, _⟩ := J.look
  obtain ⟨m, hF⟩ := I.fr
  refine PySem.W.repr_K (h₀ := X.base) hr.in1.units0 hF I.ok.mod.kin J hm.at_ hm.fn ?_
  refine wpAny_mono (run_dun (A := X.A.in1) F hr.in1 hg rfl hb I r q) (fun v s' hv => ?_) fun _ _ x => x
  obtain ⟨y, H', I', ry, z, rfl, hq⟩ := hv
  obtain ⟨t, rfl⟩ : ∃ t, v = .str z t := ry
  exact ⟨.str z, H', I', ⟨t, rfl⟩, hq⟩
@[irreducible] def reprIR (C : Addr) (sp : SpD) : List DV → (DV → Prop) → Prop
  | [.d (.ins D fs)], Q => D = C ∧ sp [.d (.ins D fs)] (fun v => match v with
    | .d (.str z) => Q (.d (.str z))
    | _ => False) fun _ _ => False
  | _, _ => False
theorem sem_reprI {K : PySem.W.Frag} : CallSem K (rReprI K C sp) (reprIR C sp) := by
  intro G so H xs dxs Q R h w q hk
  unfold reprIR at q
  split at q
  · rename_i D fs
    obtain ⟨v, rfl, w1⟩ : ∃ v, xs = [v] ∧ VOk K G so H v (.d (.ins D fs)) := by
      cases w with
      | cons w1 _ t => cases t; exact ⟨_, rfl, w1⟩
    obtain ⟨rfl, q⟩ := q
    obtain ⟨a, dx, vs, rfl, e, _⟩ := w1.inst h rfl
    refine ⟨a, dx, vs, rfl, e, G, so, _, _, _, h, w, q, fun v H' G' dv p z => ?_, fun _ _ _ _ _ _ _ z => z⟩
    split at z
    · rename_i y
      have : v = .str y := by
        have := p.val
        cases this; rfl
      exact ⟨y, this, hk v H' G' _ p z⟩
    · exact z.elim
  · exact q.elim
theorem l_reprI {fs : List (Str × D)} {Q : DV → Prop} (h : sp [.d (.ins C fs)] (fun v => match v with
    | .d (.str z) => Q (.d (.str z))
    | _ => False) fun _ _ => False) : reprIR C sp [.d (.ins C fs)] Q := by
  unfold reprIR
  exact ⟨rfl, h⟩
/-! len -/
def rLenI (K : PySem.W.Frag) (C : Addr) (sp : SpD) : List V → Hp → VK → Prop := fun xs H Q => ∃ a dx fs, xs = [.ref a] ∧ H a = some (.ins C dx fs) ∧ upSp K sp xs H (fun v H' => ∃ n : Int, v = .int n ∧ (0 ≤ n ∧ n < 2 ^ 63) ∧ Q v H') fun _ _ _ => False
theorem call_lenI (hm : Meth X.K C "__len__" f) (F : FnG X.prog X.w X.K X.mg X.base k f fd ps sp) (hr : Room (k + 1) X.A) (hg : X.A.guards = some []) (hb : Binds X.K fd ps []) : CallR X (.builtin "len") (rLenI X.K C sp) := by
  intro pins s σ H xs us Q I r h
  obtain ⟨a, dx, fs, rfl, e, q⟩ := h
  obtain ⟨u, rfl, ru⟩ : ∃ u, us = [u] ∧ RelV (.ref a) u := by
    cases r with
    | cons ru t => cases t; exact ⟨_, rfl, ru⟩
  cases ru
  obtain ⟨mA, J, _⟩ := ins_get I.hok e
  obtain ⟨od, J, _⟩ := J.look
  obtain ⟨m, hF⟩ := I.fr
  refine PySem.W.len_K (h₀ := X.base) hF I.ok.mod.kin J hm.at_ hm.fn ?_
  refine wpAny_mono (run_dun (A := X.A.in1) F hr.in1 hg rfl hb I r q) (fun v s' hv => ?_) fun _ _ x => x
  obtain ⟨y, H', I', ry, n, rfl, hn, hq⟩ := hv
  obtain ⟨t, rfl⟩ : ∃ t, v = .int n t := ry
  exact ⟨hn, .int n, H', I'.tok _, ⟨_, rfl⟩, hq⟩
@[irreducible] def lenIR (C : Addr) (sp : SpD) : List DV → (DV → Prop) → Prop
  | [.d (.ins D fs)], Q => D = C ∧ sp [.d (.ins D fs)] (fun v => match v with
    | .d (.int n) => (0 ≤ n ∧ n < 2 ^ 63) ∧ Q (.d (.int n))
    | _ => False) fun _ _ => False
  | _, _ => False
theorem sem_lenI {K : PySem.W.Frag} : CallSem K (rLenI K C sp) (lenIR C sp) := by
  intro G so H xs dxs Q R h w q hk
  unfold lenIR at q
  split at q
  · rename_i D fs
    obtain ⟨v, rfl, w1⟩ : ∃ v, xs = [v] ∧ VOk K G so H v (.d (.ins D fs)) := by
      cases w with
      | cons w1 _ t => cases t; exact ⟨_, rfl, w1⟩
    obtain ⟨rfl, q⟩ := q
    obtain ⟨a, dx, vs, rfl, e, _⟩ := w1.inst h rfl
    refine ⟨a, dx, vs, rfl, e, G, so, _, _, _, h, w, q, fun v H' G' dv p z => ?_, fun _ _ _ _ _ _ _ z => z⟩
    split at z
    · rename_i y
      have : v = .int y := by
        have := p.val
        cases this; rfl
      exact ⟨y, this, z.1, hk v H' G' _ p z.2⟩
    · exact z.elim
  · exact q.elim
theorem l_lenI {fs : List (Str × D)} {Q : DV → Prop} (h : sp [.d (.ins C fs)] (fun v => match v with
    | .d (.int n) => (0 ≤ n ∧ n < 2 ^ 63) ∧ Q (.d (.int n))
    | _ => False) fun _ _ => False) : lenIR C sp [.d (.ins C fs)] Q := by
  unfold lenIR
  exact ⟨rfl, h⟩
end
end DL

set_option Elab.async false
set_option linter.all false
set_option maxRecDepth 100000
set_option autoImplicit false
set_option maxHeartbeats 2000000
/-! own classes: == and != -/
namespace DL
open PySem PySem.Spec PyProof.Rows L2
section
variable {M : Model} {prog : Program} {w : World} {A : Around} {E : Value → Shared → Prop} {s : Shared} {K : PySem.W.Frag} {x C f L : Addr} {ox : Obj} {od : Option Obj} {h₀ : Heap} {m : Str → Option Value} {b tb : Value}
theorem ne_entry {Q : Fin → Shared → Prop} (hu : A.units < cLine) (X : K.In s.heap) (I : PySem.W.InstAt s.heap x ox C od) (hs : PySem.W.findIn K (.ref C) "__eq__" = some (some (.ref f))) (hf : PySem.W.isFn K (.ref f) = true)
    (h : wpAny M A (call (.ref f) [.ref x, b]) (fun v s' => ∃ r, v = .bool r ∧ Q (.done (.ret (.bool (!r)))) s') E s) : wpAny M A (Builtin.«object.__ne__» ⟨[.ref x, b], []⟩) Q E s := by
  have g : wpAny M A (callSpecialIfBound? (.ref x) "__eq__" [b]) (fun o s' => ∃ r, o = some (.bool r) ∧ Q (.done (.ret (.bool (!r)))) s') E s :=
    PySem.W.ifBound_K (name := "__eq__") X I hs hf (wpAny_mono h (fun v s' ⟨r, e, q⟩ => ⟨r, by rw [e], q⟩) fun _ _ z => z)
  unfold Builtin.«object.__ne__»
  repeat (first
    | with_reducible refine wpAny_cRoomFor hu ?_
    | (refine wpAny_bind (m := callSpecialIfBound? (.ref x) (Str.ofString "__eq__") [b]) (wpAny_mono g (fun o s' z => by
          obtain ⟨r, rfl, q⟩ := z
          repeat (first | exact q | exact wpAny_pure q | exact wpAny_truthy_bool q | (refine wpAny_bind (m := truthy (.bool _)) (wpAny_truthy_bool ?_)) | wp_step)) fun _ _ z => z))
    | wp_step)
theorem ne_bound {args : List Value} {Q : Option Value → Shared → Prop} (X : K.In s.heap) (I : PySem.W.InstAt s.heap x ox C od) (hs : PySem.W.findIn K (.ref C) "__ne__" = some (some (.builtin "object.__ne__")))
    (h : wpAny M A (call (.builtin "object.__ne__") (.ref x :: args)) (fun v => Q (some v)) E s) : wpAny M A (callSpecialIfBound? (.ref x) "__ne__" args) Q E s := by
  simp only [callSpecialIfBound?, bindSpecialIfBound?]
  refine wpAny_holding (wpAny_bind (wpAny_bind (wpAny_bind (I.type.here ((PySem.W.looks_findIn X hs).here ?_)))))
  have fin : wpAny M A (call (.builtin "object.__ne__") ([.ref x] ++ args) >>= fun v => pure (some v)) Q E s := wpAny_bind (wpAny_mono h (fun v s' q => wpAny_pure q) fun _ _ z => z)
  refine wpAny_bind (wpAny_askSetting (wpAny_ite ?_))
  split
  · exact wpAny_bind (wpAny_of_eq (F.cmp_object.ne.bind _) (wpAny_pure fin))
  · exact wpAny_tryCatch (wpAny_bind (wpAny_of_eq (F.cmp_object.ne.bind _) (wpAny_pure fin)))
theorem rich_ne {Q : Value → Shared → Prop} (hu : A.units < cLine) (hu1 : A.in1.units < cLine) (X : K.In s.heap) (I : PySem.W.InstAt s.heap x ox C od) (hb : PySem.W.Looks (model prog w) s.heap (typeOf b) tb) (hn : PySem.W.notFirst K C tb = true) (hm : PySem.W.mroIn K C (.type "object") = some true)
    (hne : PySem.W.findIn K (.ref C) "__ne__" = some (some (.builtin "object.__ne__"))) (hs : PySem.W.findIn K (.ref C) "__eq__" = some (some (.ref f))) (hf : PySem.W.isFn K (.ref f) = true)
    (h : wpAny (model prog w) A.in1 (call (.ref f) [.ref x, b]) (fun v s' => ∃ r, v = .bool r ∧ Q (.bool (!r)) s') E s) : wpAny (model prog w) A (richCompare .NotEq (.ref x) b) Q E s := by
  have one : wpAny (model prog w) A (tryCompare (.ref x) "__ne__" b) (fun r s' => ∃ v, r = some v ∧ Q v s') E s := by
    unfold tryCompare
    refine wpAny_bind (ne_bound X I hne (wpAny_call (codeAny_call_builtin F.cmp_object.ne.plain F.cmpEntry_ne (PySem.W.check_slot F.cmpKind_ne F.cmpSplit_ne (I.type.andThen (PySem.W.looks_mroIn X hm)) (F.cmpArgs_ne _ _) (ne_entry hu1 X I hs hf (wpAny_mono h (fun v s' z => ?_) fun _ _ z => z))))))
    obtain ⟨r, rfl, q⟩ := z
    exact ⟨r, rfl, wpAny_pure ⟨_, rfl, q⟩⟩
  unfold richCompare
  simp only [oneThing_ref]
  refine wpAny_holding (wpAny_bind (wpAny_cRoomFor hu (wpAny_bind (I.type.here (wpAny_bind (hb.here ?_))))))
  have last : ∀ {o : Option Value} {s' : Shared}, (∃ v, o = some v ∧ Q v s') → ∃ v, o = some v ∧ Q v s' := fun z => z
  split
  · rename_i q
    have e : PySem.W.subIn K tb (.ref C) = some false := by
      rcases Bool.or_eq_true_iff.mp hn with e | e
      · rw [beq_iff_eq.mp e] at q; simp at q
      · exact beq_iff_eq.mp e
    refine wpAny_bind ((PySem.W.looks_subIn X e).here ?_)
    simp only [Bool.false_eq_true, if_false]
    refine wpAny_bind (wpAny_mono one (fun r s' z => ?_) fun _ _ z => z)
    obtain ⟨v, rfl, q⟩ := last z
    exact wpAny_pure q
  · refine wpAny_bind (wpAny_pure ?_)
    simp only [Bool.false_eq_true, if_false]
    refine wpAny_bind (wpAny_mono one (fun r s' z => ?_) fun _ _ z => z)
    obtain ⟨v, rfl, q⟩ := last z
    exact wpAny_pure q
end
section
variable {X : Cx} {k : Nat} {f C : Addr} {fd : FuncData} {ps : List Str} {sp : SpD}
def rCmpI (K : PySem.W.Frag) (C : Addr) (sp : SpD) (n : Bool) : R2 := fun x y H Q => ∃ a dx fs t, x = .ref a ∧ H a = some (.ins C dx fs) ∧ TyX K H y t ∧ PySem.W.notFirst K C t = true ∧ upSp K sp [x, y] H (fun v H' => ∃ b, v = .bl b ∧ Q (.bl (if n then !b else b)) H') fun _ _ _ => False
theorem op_eqI (hm : Meth X.K C "__eq__" f) (F : FnG X.prog X.w X.K X.mg X.base k f fd ps sp) (hr : Room (k + 1) X.A) (hg : X.A.guards = some []) (hb : Binds X.K fd ps []) : OpR X (compareOp .Eq) (rCmpI X.K C sp false) := by
  intro pins s σ H x y v u Q I rx ry h
  obtain ⟨a, dx, fs, t, rfl, e, ty, nf, q⟩ := h
  cases rx
  obtain ⟨mA, J, _⟩ := ins_get I.hok e
  obtain ⟨od, J, _⟩ := J.look
  obtain ⟨m, hF⟩ := I.fr
  obtain ⟨P, Z, p, _⟩ := kit_of I ry ty
  refine PySem.W.cmp_K (op := .Eq) (h₀ := X.base) hr.units0 hF I.ok.mod.kin J (Z.ty _ _ I.kIn p) nf hm.at_ hm.fn ?_
  refine wpAny_mono (run_dun (A := X.A) F (hr.mono (by omega)) hg rfl hb I (vs := [.ref a, y]) (.cons rfl (.cons ry .nil)) q) (fun v s' hv => ?_) fun _ _ x => x
  obtain ⟨z, H', I', rz, b, rfl, hq⟩ := hv
  obtain rfl : v = .bool b := rz
  exact ⟨.bl b, H', I', rfl, hq⟩
theorem op_neI (c : CInst X.K C) (hm : Meth X.K C "__eq__" f) (F : FnG X.prog X.w X.K X.mg X.base k f fd ps sp) (hr : Room (k + 1) X.A) (hg : X.A.guards = some []) (hb : Binds X.K fd ps []) : OpR X (compareOp .NotEq) (rCmpI X.K C sp true) := by
  intro pins s σ H x y v u Q I rx ry h
  obtain ⟨a, dx, fs, t, rfl, e, ty, nf, q⟩ := h
  cases rx
  obtain ⟨mA, J, _⟩ := ins_get I.hok e
  obtain ⟨od, J, _⟩ := J.look
  obtain ⟨P, Z, p, _⟩ := kit_of I ry ty
  refine rich_ne hr.units0 hr.in1.units0 I.kIn J (Z.ty _ _ I.kIn p) nf c.mo c.ne hm.at_ hm.fn ?_
  refine wpAny_mono (run_dun (A := X.A.in1) F hr.in1 hg rfl hb I (vs := [.ref a, y]) (.cons rfl (.cons ry .nil)) q) (fun v s' hv => ?_) fun _ _ x => x
  obtain ⟨z, H', I', rz, b, rfl, hq⟩ := hv
  obtain rfl : v = .bool b := rz
  exact ⟨b, rfl, .bl (!b), H', I', rfl, hq⟩
@[irreducible] def cmpIR (K : PySem.W.Frag) (C : Addr) (sp : SpD) (n : Bool) (x y : DV) (Q : DV → Prop) : Prop := match x, y with
  | .d (.ins D fs), .d e => D = C ∧ CInst K C ∧ ((∃ gs, e = .ins C gs) ∨ (tyD e).isSome = true) ∧ sp [.d (.ins D fs), .d e] (fun v => match v with
    | .d (.bl b) => Q (.d (.bl (if n then !b else b)))
    | _ => False) fun _ _ => False
  | _, _ => False
theorem sem_cmpI {K : PySem.W.Frag} {n : Bool} : OpSem K (rCmpI K C sp n) (cmpIR K C sp n) := by
  intro G so H x y dx dy Q R h wx wy q hk
  unfold cmpIR at q
  split at q
  · rename_i D fs e
    obtain ⟨rfl, c, ho, q⟩ := q
    obtain ⟨a, dd, vs, rfl, ea, _⟩ := wx.inst h rfl
    have ty : ∃ t, TyX K H y t ∧ PySem.W.notFirst K D t = true := by
      rcases ho with ⟨gs, rfl⟩ | ho
      · exact ⟨_, ty_ins h wy c rfl, by simp [PySem.W.notFirst]⟩
      · obtain ⟨t, et⟩ := Option.isSome_iff_exists.mp ho
        refine ⟨_, ty_ok h wy rfl et, ?_⟩
        unfold PySem.W.notFirst
        rw [c.sub t (ty_kind et)]
        simp
    obtain ⟨t, t1, t2⟩ := ty
    refine ⟨a, dd, vs, t, rfl, ea, t1, t2, G, so, _, _, _, h, .cons wx (fun _ e => (nomatch e)) (.cons wy (fun _ e => (nomatch e)) .nil), q, fun v H' G' dv p z => ?_, fun _ _ _ _ _ _ _ z => z⟩
    split at z
    · rename_i b
      have : v = .bl b := by
        have := p.val
        cases this; rfl
      subst this
      refine ⟨b, rfl, hk _ H' G' (.d (.bl (if n then !b else b))) ⟨p.ex, p.hrep, p.keep, p.frm, .bl _, fun _ _ e => (nomatch e), fun _ e => (nomatch e)⟩ z⟩
    · exact z.elim
  · exact q.elim
theorem l_cmpI {K : PySem.W.Frag} {n : Bool} {fs : List (Str × D)} {e : D} {Q : DV → Prop} (c : CInst K C) (ho : (∃ gs, e = .ins C gs) ∨ (tyD e).isSome = true) (h : sp [.d (.ins C fs), .d e] (fun v => match v with
    | .d (.bl b) => Q (.d (.bl (if n then !b else b)))
    | _ => False) fun _ _ => False) : cmpIR K C sp n (.d (.ins C fs)) (.d e) Q := by
  unfold cmpIR
  exact ⟨rfl, c, ho, h⟩
end
end DL

set_option Elab.async false
set_option linter.all false
set_option maxRecDepth 100000
set_option autoImplicit false
set_option maxHeartbeats 2000000
/-! starred items, f-strings, properties; the head that tells of properties -/
namespace DL
open PySem PySem.Spec PyProof.Rows L2
section
variable {X : Cx} {W : WX} {e : Expr} {es : List Expr} {te : TD} {tr : TDA} {p pos : Pos}
theorem VsOk.dats {K : PySem.W.Frag} {G H : Hp} {so : So} : ∀ {vs : List V} {ds : List D}, DAll K G vs ds → VsOk K G so H vs (ds.map .d)
  | _, _, .nil => .nil
  | _, _, .cons h t => .cons h (fun _ e => (nomatch e)) (VsOk.dats t)
theorem VsOk.app {K : PySem.W.Frag} {G H : Hp} {so : So} : ∀ {vs ws : List V} {ds es : List DV}, VsOk K G so H vs ds → VsOk K G so H ws es → VsOk K G so H (vs ++ ws) (ds ++ es)
  | _, _, _, _, .nil, h => h
  | _, _, _, _, .cons a b t, h => .cons a b (VsOk.app t h)
/-- *e among the items -/
def dStar (te : TD) (tr : TDA) : TDA := fun sl Q E => te sl (fun x s1 => match seqD x with
  | some ds => tr s1 (fun xs s2 => Q (ds.map .d ++ xs) s2) E
  | none => False) E
theorem da_star (he : DE X W e te) (hr : DA X W es tr) (hs : starEach (.Starred e p :: es) X.env = (true, eval e X.env) :: starEach es X.env := by rfl) : DA X W (.Starred e p :: es) (dStar te tr) := by
  refine pa_imp (StX.pa_star he hr hs) fun σ H R ⟨G, so, sl, Q, E, rep, q, hq, hx⟩ => ?_
  refine ⟨G, so, sl, _, E, rep, q, fun x H1 G1 dx s1 p1 h1 => ?_, hx⟩
  split at h1
  · rename_i ds ed
    have fin : ∀ {b : Addr} {vs : List V}, x = .ref b → (SqT X.K H1 b vs ∨ SqL X.K H1 b vs) → DAll X.K G1 vs ds → ∃ p xs, x = V.ref p ∧ (SqT X.K H1 p xs ∨ SqL X.K H1 p xs) ∧ upA X.K W tr σ H1 fun ys H2 => R (xs ++ ys) H2 := fun {b vs} e1 e2 a1 =>
      ⟨b, vs, e1, e2, G1, so, s1, _, E, p1.rep, h1, fun ws H2 G2 es' s2 p2 w h2 => hq (vs ++ ws) H2 G2 _ s2 (p1.toPost.trans p2) ((VsOk.dats (a1.mono p2.ex)).app w) h2, hx.step p1.toPost⟩
    unfold seqD at ed
    split at ed
    · cases ed
      obtain ⟨b, vs, e1, g1, a1⟩ := VOk.tup p1.rep.h p1.val
      exact fin e1 (.inl g1) a1
    · obtain ⟨b, vs, e1, g1, a1⟩ := VOk.list p1.rep.h p1.val ed
      exact fin e1 (.inr (SqL.of g1)) a1
  · exact h1.elim
/-! ### f-strings -/
@[irreducible] def fmtR (x : DV) (Q : DV → Prop) : Prop := match x with
  | .d (.str z) => z.length ≤ szl ∧ Q (.d (.str z))
  | .d (.int i) => i.natAbs.log2 < 1920 ∧ Q (.d (.str (toString i)))
  | _ => False
theorem de_fmt (he : DE X W e te) : DE X W (.FormattedValue e (-1) none pos) (dUn fmtR te) := by
  refine pe_imp (pe_fmt he) fun σ H R ⟨G, so, sl, Q, E, rep, q, hq, hx⟩ => ?_
  refine ⟨G, so, sl, _, E, rep, q, fun x H1 G1 dx s1 p1 h1 => ?_, hx⟩
  unfold fmtR at h1
  split at h1
  · have w := p1.val
    cases w
    exact .inl ⟨_, rfl, by rw [← szl_eq]; exact h1.1, hq _ H1 G1 _ s1 (p1.toPost.thenV (.dat p1.rep.h (.str _))) h1.2⟩
  · have w := p1.val
    cases w
    exact .inr ⟨_, rfl, h1.1, hq _ H1 G1 _ s1 (p1.toPost.thenV (.dat p1.rep.h (.str _))) h1.2⟩
  · exact h1.elim
theorem l_fmtS {z : Str} {Q : DV → Prop} (h : z.length ≤ szl) (q : Q (.d (.str z))) : fmtR (.d (.str z)) Q := by unfold fmtR; exact ⟨h, q⟩
theorem l_fmtI {i : Int} {Q : DV → Prop} (h : i.natAbs.log2 < 1920) (q : Q (.d (.str (toString i)))) : fmtR (.d (.int i)) Q := by unfold fmtR; exact ⟨h, q⟩
/-- the parts, one behind the other -/
inductive DJ (X : Cx) (W : WX) : List Expr → List TD → Prop where
  | nil : DJ X W [] []
  | cons {e : Expr} {t : TD} {es : List Expr} {ts : List TD} (h : DE X W e t) (r : DJ X W es ts) : DJ X W (e :: es) (t :: ts)
theorem DJ.pj {es : List Expr} {ts : List TD} (h : DJ X W es ts) : PJ X es (ts.map (up X.K W)) := by
  induction h with
  | nil => exact .nil
  | cons h r ih => exact .cons h ih
def dJs : List TD → Str → DSt → (DV → DSt → Prop) → XP → Prop
  | [], acc, sl, Q, _ => Q (.d (.str acc)) sl
  | t :: ts, acc, sl, Q, E => t sl (fun x s1 => match x with
    | .d (.str y) => (acc ++ y).length ≤ szl ∧ dJs ts (acc ++ y) s1 Q E
    | _ => False) E
theorem up_js {σ : L2.St} : ∀ (ts : List TD) (acc : Str) {H : Hp} {R : VK} {G : Hp} {so : So} {sl : DSt} {Q : DV → DSt → Prop} {E : XP}, Rep X.K G so σ H sl → dJs ts acc sl Q E → (∀ v H' G' dv sl', PostE X.K G so σ H sl v H' G' dv sl' → Q dv sl' → R v H') → XOk X.K W G so σ H sl E →
    tJs (ts.map (up X.K W)) acc σ H fun out H1 => R (.str out) H1
  | [], acc, H, R, G, so, sl, Q, E, rep, q, hq, _ => hq _ H G _ sl ((Post.refl rep).thenV (.dat rep.h (.str acc))) q
  | t :: ts, acc, H, R, G, so, sl, Q, E, rep, q, hq, hx => by
    refine ⟨G, so, sl, _, E, rep, q, fun x H1 G1 dx s1 p1 h1 => ?_, hx⟩
    split at h1
    · rename_i y
      have w := p1.val
      cases w
      exact ⟨y, rfl, by rw [← szl_eq]; exact h1.1, up_js ts (acc ++ y) p1.rep h1.2 (fun v H' G' dv sl' p2 z => hq v H' G' dv sl' (p1.toPost.thenE p2) z) (hx.step p1.toPost)⟩
    · exact h1.elim
theorem de_fstr {v1 v2 : Expr} {rest : List Expr} {ts : List TD} (h : DJ X W (v1 :: v2 :: rest) ts) : DE X W (.JoinedStr (v1 :: v2 :: rest) pos) (dJs ts Str.empty) :=
  pe_imp (pe_joined h.pj) fun σ H R ⟨G, so, sl, Q, E, rep, q, hq, hx⟩ => up_js ts Str.empty rep q hq hx
end
/-! ### properties -/
section
variable {X : Cx} {W : WX} {k : Nat} {C p g : Addr} {f : Str} {fd : FuncData} {ps : List Str} {sp : SpD} {e : Expr} {te : TD} {pos : Pos}
theorem getprop {pins : List (Addr × Obj)} {σ : L2.St} {H : Hp} {s : Shared} {Q : VK} {b : Bool} {a dx : Addr} {fs : List (Str × V)} (I : Inv X pins σ H s) (ea : H a = some (.ins C dx fs)) (c : Cls X.K C) (hp : PropOf X.K C f p g) (F : FnG X.prog X.w X.K X.mg X.base k g fd ps sp) (hr : Room (k + 1) X.A) (hg : X.A.guards = some [])
    (hb : Binds X.K fd ps []) (h : upSp X.K sp [.ref a] H Q fun _ _ _ => False) : wpAny (model X.prog X.w) X.A (getAttr (.ref a) f b) (EP X pins σ Q) X.xe s := by
  obtain ⟨mA, O, _, _, _, _⟩ := ins_get I.hok ea
  obtain ⟨od, J, _⟩ := O.look
  obtain ⟨rest, hrec⟩ := hp.rec_
  have I1 := I.tok (s.toks + 1)
  have hl : [Value.ref a].length = ps.length := by
    obtain ⟨G, so, as, QD, ED, hh, w, z, _⟩ := h
    have := F.len _ _ _ z
    rw [← this, ← w.length]; rfl
  have hc : (PySem.W.clsIn X.K C).isSome = true := by
    obtain ⟨cd, hc, _⟩ := PySem.W.any_some c.hd
    rw [hc]; rfl
  have e := I1.env0
  refine PySem.W.get_bind I.kIn J (PySem.W.plainGet_of (c.get f)).1 (PySem.W.findObj_data hc hp.at_ hp.get hp.tak) (PySem.W.plainGet_of (c.get f)).2 (wpAny_call (PySem.W.prop_get (s := { s with toks := s.toks + 1 }) I.kIn hrec ?_))
  refine codeAny_mono (F.run X.A.in1 X.stack { s with toks := s.toks + 1 } H ⟨[.ref a], []⟩ [.ref a] [.ref a] Q (fun _ _ _ => False) hr.in1 hg e.in1 (by
    have := hb { s with toks := s.toks + 1 } [.ref a] I1.kIn (by simpa using hl)
    simpa using this) (.cons rfl .nil) h) fun r s' hq => ?_
  cases r with
  | error er =>
    obtain ⟨_, _, _, _, _, _, _, _, _, _, _, _, z⟩ := hq
    exact z.elim
  | ok fl =>
    cases fl with
    | ret u =>
      obtain ⟨v, H', I3, rv, q3⟩ := I1.after hq
      show wpAny _ _ (handedOut u) _ _ _
      rw [PySem.W.handedOut_of (handed_of rv)]
      exact wpAny_pure ⟨v, H', I3, rv, q3⟩
    | next => exact False.elim hq
    | brk => exact False.elim hq
    | cont => exact False.elim hq
def dProp (C : Addr) (sp : SpD) (te : TD) : TD := fun sl Q E => te sl (fun x s1 => match pubV x with
  | .d (.ins D fs) => D = C ∧ sp [.d (.ins D fs)] (fun v => Q v s1) fun _ _ => False
  | _ => False) E
theorem de_prop (he : DE X W e te) (c : Cls X.K C) (hp : PropOf X.K C f p g) (F : FnG X.prog X.w X.K X.mg X.base k g fd ps sp) (hr : Room (k + 1) X.A) (hg : X.A.guards = some []) (hb : Binds X.K fd ps [])
    (hab : attributeBase e f X.env (eval e X.env) = eval e X.env := by rfl) : DE X W (.Attribute e f pos) (dProp C sp te) := by
  refine ⟨fun pins s σ H R I ⟨G, so, sl, Q, E, rep, q, hq, hx⟩ => ?_⟩
  refine attr_of hab (thn (he.run pins s σ H (fun v H1 => ∃ G1 s1 fs, PostE X.K G so σ H sl v H1 G1 (.d (.ins C fs)) s1 ∧ sp [.d (.ins C fs)] (fun v => Q v s1) fun _ _ => False) I ⟨G, so, sl, _, E, rep, q, fun v H1 G1 dv s1 p1 z => ?_, hx⟩) fun u s1 ⟨x, H1, I1, rx, G1, sl1, fs, p1, z⟩ => ?_)
  · obtain ⟨G2, p2⟩ := p1.pub
    split at z
    · rename_i D fs ed
      obtain ⟨rfl, z⟩ := z
      exact ⟨G2, s1, fs, by rw [← ed]; exact p2, z⟩
    · exact z.elim
  · obtain ⟨a, dx, vs, rfl, ea, _⟩ := VOk.inst p1.rep.h p1.val rfl
    obtain rfl : u = Value.ref a := rx
    exact getprop I1 ea c hp F hr hg hb ⟨G1, so, _, _, _, p1.rep.h, .cons p1.val (fun _ e => (nomatch e)) .nil, z, fun v H' G' dv pv y => hq v H' G' dv sl1 (p1.toPost.thenE (pv.slots p1.rep)) y, fun _ _ _ _ _ _ _ y => y⟩
end
/-! ### the head, with properties -/
def gAt (K : PySem.W.Frag) (C : Addr) (f : Str) : Addr := match PySem.W.recIn K (He.ma K C f) "property" with
  | some (.ref g :: _) => g
  | _ => 0
structure PSpec where
  cls : Str
  prop : Str
  df : He.DefD
def fnWa (K : PySem.W.Frag) (a : Addr) : He.FnW := match K.lookup a with
  | some ⟨_, _, .func fd, _⟩ => some (fd.name, fd.qualname, fd.params, fd.body, fd.scope, fd.globals, fd.closure, fd.builtins)
  | _ => none
def headed (K : PySem.W.Frag) (p g : Addr) : Bool := match PySem.W.recIn K p "property" with
  | some (.ref a :: _) => decide (a = g)
  | _ => false
def pB (K : PySem.W.Frag) (q : PSpec) : Bool :=
  let C := He.ga K q.cls
  let p := He.ma K C q.prop
  let g := gAt K C q.prop
  decide (PySem.W.findIn K (.ref C) q.prop = some (some (.ref p))) && (decide (PySem.W.specialIn K (.ref p) "__get__" = some (some (.builtin "property.__get__"))) && (decide (PySem.W.takesIn K (.ref p) = some true) && (headed K p g &&
  (PySem.W.keepIn K (.ref g) && (match K.lookup g with
    | some ⟨_, _, .func fd, _⟩ => PySem.W.codeIn K fd.code q.df.qual && (He.dflB K fd.defaults [] && He.kwdB K fd.kwdefaults [])
    | _ => false)))))
structure POk (K : PySem.W.Frag) (q : PSpec) : Prop where
  p : PropOf K (He.ga K q.cls) q.prop (He.ma K (He.ga K q.cls) q.prop) (gAt K (He.ga K q.cls) q.prop)
  f : ∃ fd, FunD K q.df.name q.df.qual q.df.params q.df.body q.df.scope [] [] (gAt K (He.ga K q.cls) q.prop) fd
theorem pB_ok {K : PySem.W.Frag} {q : PSpec} (c : pB K q = true) (e : fnWa K (gAt K (He.ga K q.cls) q.prop) = q.df.val) : POk K q := by
  unfold pB at c
  dsimp only at c
  obtain ⟨c1, c⟩ := He.ba c
  obtain ⟨c2, c⟩ := He.ba c
  obtain ⟨c3, c⟩ := He.ba c
  obtain ⟨c4, c⟩ := He.ba c
  obtain ⟨c5, c6⟩ := He.ba c
  refine ⟨⟨of_decide_eq_true c1, of_decide_eq_true c2, of_decide_eq_true c3, ?_⟩, ?_⟩
  · unfold headed at c4
    split at c4
    · rename_i a rest hr
      exact ⟨rest, by rw [hr, of_decide_eq_true c4]⟩
    · cases c4
  · generalize gAt K (He.ga K q.cls) q.prop = g at *
    unfold fnWa at e
    split at c6
    · rename_i oc od fd osl lk
      rw [lk] at e
      obtain ⟨n1, n2, n3, n4, n5, n6, n7, n8, n9, n10, n11, n12, n13, n14, n15⟩ := fd
      have e2 : (some (n1, n2, n3, n4, n5, n6, n7, n15) : He.FnW) = some (q.df.name, q.df.qual, q.df.params, .stmts q.df.body, q.df.scope, mainGlobals, [], builtinsNs) := e
      simp only [Option.some.injEq, Prod.mk.injEq] at e2
      obtain ⟨h1, h2, h3, h4, h5, h6, h7, h8⟩ := e2
      subst h1 h2 h3 h4 h5 h6 h7 h8
      obtain ⟨k1, k2⟩ := He.ba c6
      obtain ⟨k3, k4⟩ := He.ba k2
      exact ⟨_, ⟨oc, od, n8, n9, n10, n11, n12, n13, n14, osl, rfl, lk, k1, He.dflB_ok k3, He.kwdB_ok k4⟩, c5⟩
    · cases c6
structure LZ extends LY where
  ci : List Str
  pr : List PSpec
abbrev AlZ : Type := Bool × AlY × List He.FnW
def LZ.ok (l : LZ) (K : PySem.W.Frag) : Bool := (l.ci.all fun C => cB K (He.ga K C)) && l.pr.all (pB K)
def valZ (l : LZ) (fn : List He.DefD) : AlZ := (true, valY l.toLY fn, l.pr.map fun q => q.df.val)
structure SaysZ (l : LZ) (fa : List He.Fa) (fn : List He.DefD) (h : Heap) (K : PySem.W.Frag) : Prop extends SaysY l.toLY fa fn h K where
  ci : ∀ C ∈ l.ci, CInst K (He.ga K C)
  pr : ∀ q ∈ l.pr, POk K q
def obsZG (n : Nat) (l : LZ) (fa : List He.Fa) (fn : List He.DefD) (g : Addr → Option Obj) : AlZ := (l.ok (He.frT g (asX g n)), obsYG n l.toLY fa fn g, l.pr.map fun q => fnWa (He.frT g (asX g n)) (gAt (He.frT g (asX g n)) (He.ga (He.frT g (asX g n)) q.cls) q.prop))
theorem saysZ_of {n : Nat} {l : LZ} {fa : List He.Fa} {fn : List He.DefD} {h : Heap} (e : obsZG n l fa fn h.get? = valZ l fn) : SaysZ l fa fn h (He.frT h.get? (asX h.get? n)) := by
  have e1 : l.ok (He.frT h.get? (asX h.get? n)) = true := congrArg (fun z : AlZ => z.1) e
  have e2 : obsYG n l.toLY fa fn h.get? = valY l.toLY fn := congrArg (fun z : AlZ => z.2.1) e
  have e3 : (l.pr.map fun q => fnWa (He.frT h.get? (asX h.get? n)) (gAt (He.frT h.get? (asX h.get? n)) (He.ga (He.frT h.get? (asX h.get? n)) q.cls) q.prop)) = l.pr.map fun q => q.df.val := congrArg (fun z : AlZ => z.2.2) e
  obtain ⟨a1, a2⟩ := He.ba e1
  exact { saysY_of e2 with ci := fun C hC => cB_ok (List.all_eq_true.mp a1 C hC), pr := fun q hq => pB_ok (List.all_eq_true.mp a2 q hq) (List.map_inj_left.mp e3 q hq) }
def hookZ (n : Nat) (l : LZ) (fa : List He.Fa) (fn : List He.DefD) : PySem.W.Hook where
  α := AlZ
  obs := fun s => obsZG n l fa fn s.heap.get?
  val := fun _ => valZ l fn
  says := fun _ h => ∃ K : PySem.W.Frag, K.In h ∧ SaysZ l fa fn h K
  of := fun _ _ e => ⟨_, He.frT_in, saysZ_of e⟩
  keeps := fun _ _ _ ⟨K, hK, c⟩ k => ⟨K, PySem.W.Frag.In.keeps hK k, ⟨⟨⟨c.c, c.s, c.tc, c.tn, fun p hp => k _ _ (c.te p hp), c.tu⟩, c.x⟩, c.ci, c.pr⟩⟩
theorem obsZG_eq {n : Nat} {l : LZ} {fa : List He.Fa} {fn : List He.DefD} {g : Addr → Option Obj} {s : Shared} (h : ∀ a, g a = s.heap.get? a) : obsZG n l fa fn g = (hookZ n l fa fn).obs s := by
  have e : g = s.heap.get? := funext h
  rw [e] <;> rfl
end DL
namespace DL
open PySem PySem.Spec PyProof.Rows L2
theorem dt_ok {l : LX} {fa : List He.Fa} {fn : List He.DefD} {h : Heap} {K : PySem.W.Frag} {at_ : Str × Option Str} {j : Nat} (S : SaysX l fa fn h K) {i : Nat} (e : l.xs[i]? = some (fun K => datB K (.tup []) (.ref (He.dflAt at_ j K)))) (G : Hp) : DOk K G (.ref (He.dflAt at_ j K)) (.tup []) := by
  have h1 := List.all_eq_true.mp (He.ba (He.ba S.c).2).2 _ (List.mem_of_getElem? e)
  obtain ⟨v, r, w⟩ := datB_ok (.tup []) _ h1
  have : v = .ref (He.dflAt at_ j K) := by
    have w1 := w G
    cases w1
    injection r with r
    rw [r]
  rw [← this]
  exact w G
end DL

set_option Elab.async false
set_option linter.all false
set_option maxRecDepth 100000
set_option autoImplicit false
set_option maxHeartbeats 2000000
/-! enumerate over a tuple -/
namespace DL
open PySem PySem.Spec PyProof.Rows L2
theorem enum_newT (t : Addr) (items : Array Value) :
    Meets (Builtin.«enumerate.__new__» ⟨[.type "enumerate", .ref t], []⟩) (fun _ R s => s.heap.IsTuple t items ∧
      R (.ok (.ret (.ref (s.heap.push { cls := .type "tuple_iterator", data := .fields #[.ref t, .int 0 0] }).objs.size))) { s with heap := (s.heap.push { cls := .type "tuple_iterator", data := .fields #[.ref t, .int 0 0] }).push { cls := .type "enumerate", data := .fields #[.none, .bool false, .ref s.heap.objs.size, rawInt 0, .none, .none] } }) :=
  .of_wp fun prog w A R s h => by
    obtain ⟨hp, g, d, tk, os⟩ := s
    obtain ⟨h1, h⟩ := h
    have hsub := sub_enumerate
    have q1 : ∀ {A' : Around} {E : Value → Shared → Prop} {Q : Value → Shared → Prop}, Q (.ref hp.objs.size) ⟨hp.push { cls := .type "tuple_iterator", data := .fields #[.ref t, .int 0 0] }, g, d, tk, os⟩ → wpAny (model prog w) A' (pyIter (.ref t)) Q E ⟨hp, g, d, tk, os⟩ :=
      fun q => (begins_tuple t items).iter prog w _ _ ⟨hp, g, d, tk, os⟩ _ h1 q
    wp_walk using q1
    refine wpAny_stack_any fun st => wpAny_pure ?_
    split
    · rename_i c _ _ _ _ _
      cases (c == Value.type "enumerate") <;> (wp_walk using q1; exact ⟨_, rfl, h⟩)
    · wp_walk using q1; exact ⟨_, rfl, h⟩
section
variable {prog : Program} {w : World} {A : Around} {E : Value → Shared → Prop} {s : Shared}
theorem call_enumT {t : Addr} {items : Array Value} {Q : Value → Shared → Prop} (hT : s.heap.IsTuple t items)
    (h : ∀ h', IsEnum h' (s.heap.objs.size + 1) s.heap.objs.size 0 .none → h'.IsTupleIter s.heap.objs.size t 0 → h'.objs.size = s.heap.objs.size + 2 → (∀ b o, s.heap.get? b = some o → h'.get? b = some o) → Q (.ref (s.heap.objs.size + 1)) { s with heap := h' }) :
    wpAny (model prog w) A (call (.type "enumerate") [.ref t]) Q E s := by
  refine callType_new F.called_enumerate (by decide) (F.typeCall_enumerate_1 _) (F.newCall_enumerate_1 _) (fun obj => F.args_object_init_2 obj _) F.entry_enumerate_new (enum_newT t items) ⟨hT, ?_⟩
  have hz : (s.heap.push { cls := .type "tuple_iterator", data := .fields #[.ref t, .int 0 0] }).objs.size = s.heap.objs.size + 1 := Heap.size_push ..
  show _ ∧ _
  rw [hz]
  have he : IsEnum ((s.heap.push { cls := .type "tuple_iterator", data := .fields #[.ref t, .int 0 0] }).push { cls := .type "enumerate", data := .fields #[.none, .bool false, .ref s.heap.objs.size, rawInt 0, .none, .none] }) (s.heap.objs.size + 1) s.heap.objs.size 0 .none := by
    have z := Heap.get?_push_size (s.heap.push { cls := .type "tuple_iterator", data := .fields #[.ref t, .int 0 0] }) (o := { cls := .type "enumerate", data := .fields #[.none, .bool false, .ref s.heap.objs.size, rawInt 0, .none, .none] }) rfl
    rw [hz] at z; exact z
  exact ⟨⟨_, he, rfl⟩, h _ he ⟨_, Heap.get?_push_of_some _ (Heap.get?_push_size _ rfl), rfl, rfl⟩ (by rw [Heap.size_push, hz]) fun b o x => Heap.get?_push_of_some _ (Heap.get?_push_of_some _ x)⟩
end
theorem enum_endT {prog : Program} {w : World} {A : Around} {E : Value → Shared → Prop} {s : Shared} {e it t : Addr} {i : Nat} {items : Array Value} {old : Value} {Q : Option Value → Shared → Prop} (hh : A.handled = none) (he : IsEnum s.heap e it i old) (hit : s.heap.IsTupleIter it t i) (ht : s.heap.IsTuple t items) (hx : items[i]? = none)
    (hQ : ∀ h', Heap.ExtBut it s.heap h' → Q none { s with heap := h' }) : wpAny (model prog w) A (pyNext (.ref e)) Q E s := by
  have ty : s.TypeIs (.ref e) "enumerate" := ⟨_, he, rfl⟩
  unfold pyNext
  refine wpAny_bind (wpAny_attempt (wpAny_callSpecial?_slot (name := Str.ofString "__next__") ty F.slot_enumerate_next (wpAny_call_entry F.slot_enumerate_next ty F.entry_enumerate_next ?_ (F.args_enumerate_next_1 _))))
  show wpAny _ _ (field (.ref e) 2 >>= _) _ _ _
  refine wpAny_bind (wpAny_field he rfl (x := .ref it) rfl (wpAny_bind (wpAny_nextOf_tuple_end hh hit ht hx fun h' x he' ⟨o, ho, hc⟩ => ?_)))
  exact wpAny_bind (wpAny_isInstance (T := "StopIteration") (b := true) ⟨o, ho, hc⟩ isSubtype_stop (wpAny_pure (hQ _ he')))
/-- the tuple at a, each item in a new pair -/
def IteT (K : PySem.W.Frag) (a : Addr) : It :=
  ⟨fun i H => ∃ (xs : List V) (x : V), SqT K H a xs ∧ xs[i]? = some x, fun i H v H' => ∃ T x, v = .ref T ∧ H T = none ∧ H' = upd H T (.tup [.int (i : Nat), x]) ∧ ∀ xs, SqT K H a xs → xs[i]? = some x, fun i H => ∃ xs : List V, SqT K H a xs ∧ xs.length ≤ i⟩
theorem turn_enumT {P : Program} {w : World} {K : PySem.W.Frag} {elts : List Expr} {kk : Nat} {tpos : Pos} (a e it : Addr) :
    Turn P w K (.Tuple elts kk tpos) (IteT K a) [e, it] e (fun i h => (∃ old, IsEnum h e it ((i : Nat) : Int) old) ∧ h.IsTupleIter it a i ∧ e ≠ it ∧ e ≠ a ∧ a ≠ it) where
  mem := by simp
  obj := fun i h ⟨⟨old, he⟩, ⟨o, ho, hc, hd⟩, _⟩ b hb => by
    rcases (show b = e ∨ b = it by simpa using hb) with z | z
    · rw [z]; exact ⟨_, he, fun v q => nomatch q⟩
    · rw [z]; exact ⟨o, ho, fun v q => by rw [hd] at q; cases q⟩
  keep := fun i h h' ⟨⟨old, he⟩, hi, hne⟩ k => ⟨⟨old, k e (by simp) _ he⟩, hi.at fun o q => k it (by simp) o q, hne⟩
  item := by
    intro X hP hw hK hc i pins s σ H E I hf st hg
    subst hP hw hK
    obtain ⟨⟨old, he⟩, hit, hne, hea, hai⟩ := st
    obtain ⟨xs, x, hq, hx⟩ := hg
    obtain ⟨its, rv, p, hz⟩ := I.tuple hq
    obtain ⟨u, hu, ru⟩ := rv.get hx
    have hel : e < s.heap.objs.size := Heap.lt_size he
    have hil : it < s.heap.objs.size := by obtain ⟨_, q, _⟩ := hit; exact Heap.lt_size q
    have hlt : i < its.toArray.size := by
      rw [List.size_toArray]
      exact (List.getElem?_eq_some_iff.mp hu).1
    refine wpAny_pyNext_enum_itemD (Draws.tuple (A := X.A.in1) (I.ok.hd hc) it a hai its.toArray) he ⟨hit, p⟩ hlt hne (by simp [hne, hea]) fun y h' tk hy ho hst' hT hsz hk => ?_
    have ey : y = u := by
      have z : its.toArray[i]? = some y := hy
      simp at z
      rw [hu] at z
      exact (Option.some.inj z).symm
    subst ey
    refine ⟨_, rfl, wpAny_letOwnedTupleGo_enum (s := { s with heap := h', toks := tk + 1 }) ho fun h'' he' sb => ?_⟩
    have hT2 : h''.get? s.heap.objs.size = some { cls := .type "tuple", data := .seq #[.int i tk, y] } := (sb.2 _ (Nat.ne_of_gt hel)).trans hT
    have new : ObjOk X.prog X.w (upd H s.heap.objs.size (.tup [.int (i : Nat), x])) h'' s.heap.objs.size (.tup [.int (i : Nat), x]) :=
      ⟨by show 2 ≤ sizeLine; decide, [.int i tk, y], .cons ⟨_, rfl⟩ (.cons ru .nil), ⟨_, hT2, rfl, _, rfl⟩⟩
    have I1 : Inv X pins σ (upd H s.heap.objs.size (.tup [.int (i : Nat), x])) { s with heap := h'', toks := tk + 1 } :=
      I.turnedNew (ch := [e, it]) (fun b ob hb q => (sb.2 b (fun z => hb (by simp [z]))).trans (hk b ob (fun z => hb (by simp [z])) (fun z => hb (by simp [z])) q)) hf (Nat.le_refl _) new
    refine ⟨.ref s.heap.objs.size, _, I1, rfl, ⟨_, x, rfl, I.hok.fresh (Nat.le_refl _), rfl, fun ys hy => ?_⟩, ⟨⟨y, ?_⟩, hst'.1.at fun o q => (sb.2 it (Ne.symm hne)).trans q, hne, hea, hai⟩, fun b hb => ?_⟩
    · rw [I.tuple_inj hy hq]; exact hx
    · have e1 : ((i + 1 : Nat) : Int) = (i : Int) + 1 := by omega
      rw [e1]; exact he'
    · have hb' : b < s.heap.objs.size := by
        rcases (show b = e ∨ b = it by simpa using hb) with z | z
        · rw [z]; exact hel
        · rw [z]; exact hil
      rw [upd_ne (Nat.ne_of_lt hb')]
      exact (hf b hb).1
  done := by
    intro X hP hw hK hc i pins s σ H E I hf st hg
    subst hP hw hK
    obtain ⟨⟨old, he⟩, hit, hne, hea, hai⟩ := st
    obtain ⟨xs, hq, hx⟩ := hg
    obtain ⟨its, rv, p, hz⟩ := I.tuple hq
    obtain ⟨f0, f1, f2, f3, f4, f5⟩ := hf it (by simp)
    have hl := rv.length
    exact enum_endT (I.ok.hd hc) he hit p (by simp; omega) fun h' eb => ⟨rfl, I.turned (t' := s.toks) (fun b o hb q => eb b o hb q) f0 f1 f3 f4 f5⟩
  self := fun A i s Q E ⟨⟨_, he⟩, _⟩ h => wpAny_pyIter_enum he h
def iEnumU (K : PySem.W.Frag) (ta : TA) : TI := fun σ H R => ta σ H fun vs H1 => ∃ a xs, vs = [.ref a] ∧ ((SqL K H1 a xs ∧ R (Ite K a) H1) ∨ (SqT K H1 a xs ∧ R (IteT K a) H1))
theorem pi_enumU {X : Cx} {e : Expr} {ta : TA} {p pos tpos : Pos} {elts : List Expr} {kk : Nat} (hg : Gl X "enumerate") (hm : X.mg "enumerate" = none) (ha : PA X [e] ta) (hs : starEach [e] X.env = [(false, eval e X.env)] := by rfl) :
    PI X (.Tuple elts kk tpos) (.Call (.Name "enumerate" p) [e] [] pos) (iEnumU X.K ta) := by
  refine ⟨fun pins s σ H R I h => Call_ (ld_blt I hg hm boot_enumerate (PyProof.Rows.callWith_type1 (thn (ha.run pos pins s σ H _ I h) fun us s1 ⟨vs, H1, I1, r1, q1⟩ => ?_) hs rfl))⟩
  obtain ⟨a, xs, ex, q⟩ := q1
  subst ex
  obtain ⟨u, rfl, ru⟩ := vals1 r1
  cases ru
  have fp : ∀ b ∈ [s1.heap.objs.size + 1, s1.heap.objs.size], FpOk X pins H1 b := fun b hb => by
    have hle : s1.heap.objs.size ≤ b := by
      rcases (show b = s1.heap.objs.size + 1 ∨ b = s1.heap.objs.size by simpa using hb) with z | z
      · rw [z]; exact Nat.le_add_right _ _
      · rw [z]; exact Nat.le_refl _
    exact I1.fpOk hle (I1.hok.fresh hle)
  rcases q with ⟨hq, q⟩ | ⟨hq, q⟩
  · obtain ⟨its, rv, p', hz⟩ := I1.list hq
    refine call_enumerate_list p'.isList fun h' he hit hsz hk => wpAny_pyIter_enum he ?_
    exact ⟨s1.heap.objs.size + 1, [s1.heap.objs.size + 1, s1.heap.objs.size], _, _, H1, rfl, I1.kept (t' := s1.toks) hk, turn_enum a (s1.heap.objs.size + 1) s1.heap.objs.size, ⟨⟨.none, he⟩, hit, Nat.succ_ne_self _⟩, fp, q⟩
  · obtain ⟨its, rv, p', hz⟩ := I1.tuple hq
    have hal : a < s1.heap.objs.size := by
      obtain ⟨o, ho, _⟩ := p'
      exact Heap.lt_size ho
    refine call_enumT p' fun h' he hit hsz hk => wpAny_pyIter_enum he ?_
    exact ⟨s1.heap.objs.size + 1, [s1.heap.objs.size + 1, s1.heap.objs.size], _, _, H1, rfl, I1.kept (t' := s1.toks) hk, turn_enumT a (s1.heap.objs.size + 1) s1.heap.objs.size, ⟨⟨.none, he⟩, hit, Nat.succ_ne_self _, Nat.ne_of_gt (Nat.lt_succ_of_lt hal), Nat.ne_of_lt hal⟩, fp, q⟩
theorem it_enumT {K : PySem.W.Frag} {G H : Hp} {so : So} {σ : L2.St} {sl : DSt} {c : Addr} {vs : List V} {ds : List D} (rep : Rep K G so σ H sl) (e : SqT K G c vs) (al : DAll K G vs ds) : ItD K G so σ H sl (IteT K c) (enumFrom 0 ds) := by
  have hl := enum_len 0 ds
  have kp : ∀ (H1 : Hp), (∀ a ∈ (if G c = none then [] else [c]), H1 a = H a) → SqT K H1 c vs := fun H1 k => by
    rcases e with (e | ⟨o, e⟩) | e
    · refine .inl (.inl ?_)
      rw [k c (by rw [if_neg (by rw [e]; simp)]; simp)]; exact rep.h.ex _ _ e
    · refine .inl (.inr ⟨o, ?_⟩)
      rw [k c (by rw [if_neg (by rw [e]; simp)]; simp)]; exact rep.h.ex _ _ e
    · exact .inr e
  refine ⟨if G c = none then [] else [c], fun a ha => ?_, fun i H1 hi k => ?_, fun H1 k => ?_, fun i H1 x H2 G1 k g h1 y hi => ?_⟩
  · split at ha
    · simp at ha
    · rename_i z
      obtain rfl : a = c := by simpa using ha
      obtain ⟨o, eo⟩ := Option.ne_none_iff_exists'.mp z
      exact ⟨by rw [rep.h.ex _ _ eo]; simp, rep.h.nsrc eo, fun q => z (rep.nown q).2.1⟩
  · have h2 : i < vs.length := by rw [al.length, ← hl]; exact hi
    exact ⟨vs, vs[i], kp H1 k, by simp [h2]⟩
  · exact ⟨vs, kp H1 k, by rw [al.length, ← hl]; exact Nat.le_refl _⟩
  · obtain ⟨T, x1, rfl, nT, rfl, f2⟩ := y
    obtain ⟨d, e1, e2⟩ := al.getV (f2 vs (kp _ k))
    refine ⟨_, _, enum_get 0 ds i d e1, .tuple h1 nT (.cons ?_ (.cons (e2.mono g) .nil))⟩
    rw [show (0 : Int) + (i : Nat) = (i : Nat) by omega]; exact .int _
@[irreducible] def enumUR : List DV → (List D → Prop) → Prop
  | [.d (.tup ds)], P => P (enumFrom 0 ds)
  | [.d (.lst ds)], P => P (enumFrom 0 ds)
  | _, _ => False
theorem di_enumU {X : Cx} {W : WX} {e : Expr} {ta : TDA} {pos p : Pos} {elts : List Expr} {kk : Nat} {tpos : Pos} (hg : Gl X "enumerate") (hm : X.mg "enumerate" = none) (h : DA X W [e] ta) (hs : starEach [e] X.env = [(false, eval e X.env)] := by rfl) : DI X W (.Tuple elts kk tpos) (.Call (.Name "enumerate" p) [e] [] pos) (dItA enumUR ta) := pi_imp (pi_enumU hg hm h hs) fun σ H R ⟨G, so, sl, Q, E, rep, q, hq, hx⟩ => by
  refine ⟨G, so, sl, _, E, rep, q, fun vs H1 G1 ds s1 pp w q1 => ?_, hx⟩
  unfold enumUR at q1
  split at q1
  · obtain ⟨v, rfl, w1, _⟩ := w.v1
    cases w1 with
    | tup g al => exact ⟨_, _, rfl, .inr ⟨ex_t pp.rep.h.ex g, hq _ H1 G1 _ s1 pp (it_enumT pp.rep g al) q1⟩⟩
  · obtain ⟨v, rfl, w1, _⟩ := w.v1
    cases w1 with
    | lst g al => exact ⟨_, _, rfl, .inl ⟨SqL.of (pp.rep.h.ex _ _ g), hq _ H1 G1 _ s1 pp (it_enum (pp.rep.h.ex _ _ g) al (pp.rep.h.nsrc g) (rep_own pp.rep g)) q1⟩⟩
  · exact q1.elim
theorem l_enumT {P : List D → Prop} {ds : List D} (q : P (enumFrom 0 ds)) : enumUR [.d (.tup ds)] P := by unfold enumUR; exact q
theorem l_enumL {P : List D → Prop} {ds : List D} (q : P (enumFrom 0 ds)) : enumUR [.d (.lst ds)] P := by unfold enumUR; exact q
theorem l_own {K : PySem.W.Frag} {f : Str} {C : Addr} {fs : List (Str × D)} {d : D} {Q : DV → Prop} (h1 : Cls K C) (h2 : NoAttr K C f) (h3 : fs.lookup f = some d) (q : Q (.d d)) : fldR K f (.d (.ins C fs)) Q := by
  unfold fldR
  show Cls K C ∧ NoAttr K C f ∧ (match fs.lookup f with | some d => Q (.d d) | none => False)
  rw [h3]
  exact ⟨h1, h2, q⟩
/-! ### plain trees -/
mutual
def Pl : D → Prop
  | .lst ds => Pls ds
  | .tup ds => Pls ds
  | .ins _ _ => False
  | .dk _ => False
  | .dt _ => False
  | .any => False
  | .raw _ => False
  | .non => True
  | .bl _ => True
  | .int _ => True
  | .str _ => True
def Pls : List D → Prop
  | [] => True
  | d :: r => Pl d ∧ Pls r
end
theorem Pl.kind {d : D} (h : Pl d) : kindD d = true := by
  cases d <;> first | rfl | (unfold Pl at h; exact h.elim)
theorem Pl.tup {ds : List D} (h : Pl (.tup ds)) : Pls ds := by rw [Pl] at h; exact h
theorem Pl.lst {ds : List D} (h : Pl (.lst ds)) : Pls ds := by rw [Pl] at h; exact h
theorem Pls.hd {d : D} {r : List D} (h : Pls (d :: r)) : Pl d := by rw [Pls] at h; exact h.1
theorem Pls.tl {d : D} {r : List D} (h : Pls (d :: r)) : Pls r := by rw [Pls] at h; exact h.2
theorem Pls.mem : ∀ {ds : List D} {d : D}, Pls ds → d ∈ ds → Pl d
  | _ :: _, _, h, .head _ => h.hd
  | _ :: _, _, h, .tail _ m => Pls.mem h.tl m
theorem Pls.of : ∀ {ds : List D}, (∀ d ∈ ds, Pl d) → Pls ds
  | [], _ => by simp [Pls]
  | d :: r, h => by rw [Pls]; exact ⟨h d (List.mem_cons_self ..), Pls.of fun x hx => h x (List.mem_cons_of_mem _ hx)⟩
theorem pl_tup {ds : List D} (h : Pls ds) : Pl (.tup ds) := by rw [Pl]; exact h
theorem pl_lst {ds : List D} (h : Pls ds) : Pl (.lst ds) := by rw [Pl]; exact h
theorem pl_int {i : Int} : Pl (.int i) := by simp [Pl]
theorem pl_bl {b : Bool} : Pl (.bl b) := by simp [Pl]
theorem pl_str {z : Str} : Pl (.str z) := by simp [Pl]
theorem pl_non : Pl .non := by simp [Pl]
theorem pls_nil : Pls [] := by simp [Pls]
theorem pls_cons {d : D} {r : List D} (h : Pl d) (t : Pls r) : Pls (d :: r) := by rw [Pls]; exact ⟨h, t⟩
theorem pl_rD (q : Rat) : Pl (rD q) := pl_tup (pls_cons pl_int (pls_cons pl_int pls_nil))
theorem Pl.pair {d : D} (h : Pl d) : pairK d := by
  cases d with
  | tup ds =>
    match ds, h with
    | [], _ => exact True.intro
    | [_], _ => exact True.intro
    | [a, b], h => exact ⟨h.tup.hd.kind, h.tup.tl.hd.kind⟩
    | _ :: _ :: _ :: _, _ => exact True.intro
  | _ => exact True.intro
def itemsD : D → Option (List D)
  | .lst ds => some ds
  | .tup ds => some ds
  | _ => none
theorem isBs_seq (d : D) : isBs ["list", "tuple"] d = (itemsD d).isSome := by cases d <;> rfl
theorem l_lenD {d : D} {ds : List D} {Q : DV → Prop} (h : itemsD d = some ds) (q : Q (.d (.int ds.length))) : lenR [.d d] Q := by
  cases d with
  | lst es => cases h; exact l_lenL rfl q
  | tup es => cases h; exact l_lenT q
  | _ => cases h
theorem l_iterD {d : D} {ds : List D} {P : List D → Prop} (h : itemsD d = some ds) (q : P ds) : iterR (.d d) P := by
  cases d with
  | lst es => cases h; exact l_iterL q
  | tup es => cases h; exact l_iterT q
  | _ => cases h
theorem l_enumD {d : D} {ds : List D} {P : List D → Prop} (h : itemsD d = some ds) (q : P (enumFrom 0 ds)) : enumUR [.d d] P := by
  cases d with
  | lst es => cases h; exact l_enumL q
  | tup es => cases h; exact l_enumT q
  | _ => cases h
theorem Pl.items {d : D} {ds : List D} (h : Pl d) (e : itemsD d = some ds) : Pls ds := by
  cases d with
  | lst es => cases e; exact h.lst
  | tup es => cases e; exact h.tup
  | _ => cases e
/-! ### ratios -/
theorem gc_bits {n d : Int} (h : 0 < d) (hb : d.natAbs < 2 ^ 8000) : CDivW n (gcI n d) := by
  have g := gcI_pos (n := n) h
  refine ⟨g, ?_⟩
  have l : gcI n d ≤ d := Int.le_of_dvd h (Int.gcd_dvd_right n d)
  have : (gcI n d).natAbs < 2 ^ 8000 := Nat.lt_of_le_of_lt (by omega) hb
  exact Nat.lt_of_lt_of_le (PySem.Flt.log2_lt_of (by decide) this) (by decide)
theorem div_neg (n m : Int) : Rat.divInt (-n) (-m) = Rat.divInt n m := by
  rw [Rat.neg_divInt_neg]
theorem ratOf_none {x : D} (k2 : pairK x) (h : ratOf x = none) : wholeD x = false ∧ ratioD x = false := by
  unfold ratOf at h
  split at h
  · cases h
  · rename_i a b
    split at h
    · cases h
    · rename_i z
      refine ⟨rfl, ?_⟩
      show (decide (1 ≤ b) && decide (gcI a b = 1)) = false
      rw [Bool.and_eq_false_iff]
      by_cases q : 1 ≤ b
      · exact .inr (decide_eq_false fun y => z ⟨q, y⟩)
      · exact .inl (decide_eq_false q)
  · rename_i z1 z2
    refine ⟨?_, ?_⟩
    · cases x <;> first | rfl | exact absurd rfl (z1 _)
    · cases x with
      | tup ds =>
        match ds with
        | [] => rfl
        | [_] => exact ratioD_ne (by simp)
        | _ :: _ :: _ :: _ => exact ratioD_ne (by simp)
        | [a, b] => cases a <;> cases b <;> first | rfl | exact absurd rfl (z2 _ _)
      | _ => rfl
theorem ratOf_some {x : D} {q : Rat} (h : ratOf x = some q) : (∃ i : Int, x = .int i ∧ rD q = rt i 1) ∨ (wholeD x = false ∧ ratioD x = true ∧ x = rD q) := by
  unfold ratOf at h
  split at h
  · rename_i i
    cases h
    exact .inl ⟨i, rfl, rfl⟩
  · rename_i a b
    split at h
    · rename_i z
      cases h
      refine .inr ⟨rfl, ?_, (rD_of z.1 z.2).symm⟩
      show (decide (1 ≤ b) && decide (gcI a b = 1)) = true
      rw [decide_eq_true z.1, decide_eq_true z.2]; rfl
    · cases h
  · cases h
theorem rD_bd {n m : Int} (h : m ≠ 0) (hn : n.natAbs ≤ 10 ^ 18) (hm : m.natAbs ≤ 10 ^ 18) : (Rat.divInt n m).num.natAbs < 10 ^ 20 ∧ (Rat.divInt n m).den < 10 ^ 20 := by
  have key : ∀ n m : Int, 0 < m → (Rat.divInt n m).num.natAbs ≤ n.natAbs ∧ (Rat.divInt n m).den ≤ m.natAbs := fun n m hp => by
    have e := rD_low (n := n) hp
    unfold rD rt at e
    injection e with e
    injection e with e1 e2
    injection e1 with e1
    injection e2 with e2 _
    injection e2 with e2
    have g := gcI_pos (n := n) hp
    refine ⟨?_, ?_⟩
    · rw [e1]; exact Int.natAbs_ediv_le_natAbs _ _
    · have : ((Rat.divInt n m).den : Int) ≤ m := by rw [e2]; exact Int.ediv_le_self _ (by omega)
      omega
  by_cases hp : 0 < m
  · have := key n m hp
    omega
  · have := key (-n) (-m) (by omega)
    rw [div_neg, Int.natAbs_neg, Int.natAbs_neg] at this
    omega
theorem ratOf_tup {ds : List D} {q : Rat} (h : ratOf (.tup ds) = some q) : rD q = .tup ds := by
  rcases ratOf_some h with ⟨i, e, _⟩ | ⟨_, _, e⟩
  · cases e
  · exact e.symm
theorem rt_eq {n m : Int} (hp : 0 < m) : decide ((Rat.divInt n m).num = n ∧ ((Rat.divInt n m).den : Int) = m) = decide (gcI n m = 1) := by
  have e := rD_low (n := n) hp
  unfold rD rt at e
  injection e with e
  injection e with e1 e2
  injection e1 with e1
  injection e2 with e2 _
  injection e2 with e2
  have g := gcI_pos (n := n) hp
  rw [e1, e2]
  refine decide_eq_decide.mpr ⟨fun z => ?_, fun z => ?_⟩
  · obtain ⟨z1, z2⟩ := z
    rcases Int.lt_or_le 1 (gcI n m) with y | y
    · have := Int.ediv_lt_self_of_pos_of_ne_one hp (by omega : gcI n m ≠ 1)
      omega
    · omega
  · rw [z]; simp
theorem l_eqP {a b c d : Int} {v w : DV} {Q : DV → Prop} (hv : v.dat = some (rt a b)) (hw : w.dat = some (rt c d)) (h : Q (.d (.bl (decide (a = c ∧ b = d))))) : eqR false v w Q := by
  refine l_eqD (d := rt a b) (e := rt c d) (p := .tuple [.int a, .int b]) (p' := .tuple [.int c, .int d]) hv hw rfl rfl (sh_pair _ _) (sh_pair _ _) (.inr (.inl ⟨_, rfl⟩)) ?_
  have e : PyData.eqv (.tuple [.int a, .int b]) (.tuple [.int c, .int d]) = decide (a = c ∧ b = d) := by
    simp only [PyData.eqv, PyData.eqvAll, Bool.and_true]
    rw [Bool.eq_iff_iff]
    simp only [Bool.and_eq_true, beq_iff_eq, decide_eq_true_eq]
  rw [e]; exact h
theorem ratOf_pair {n m : Int} : ratOf (.tup [.int n, .int m]) = if 1 ≤ m ∧ gcI n m = 1 then some (Rat.divInt n m) else none := rfl
end DL
namespace DL
theorem dats_map : ∀ ds : List D, dats (ds.map DV.d) = some ds
  | [] => rfl
  | d :: r => by
    show dats (DV.d d :: r.map DV.d) = _
    unfold dats
    rw [dats_map r]; rfl
end DL
namespace DL
theorem div_bd {n m : Int} (hp : 0 < m) : (Rat.divInt n m).num.natAbs ≤ n.natAbs ∧ (Rat.divInt n m).den ≤ m.natAbs := by
  have e := rD_low (n := n) hp
  unfold rD rt at e
  injection e with e
  injection e with e1 e2
  injection e1 with e1
  injection e2 with e2 _
  injection e2 with e2
  have g := gcI_pos (n := n) hp
  refine ⟨?_, ?_⟩
  · rw [e1]; exact Int.natAbs_ediv_le_natAbs _ _
  · have : ((Rat.divInt n m).den : Int) ≤ m := by rw [e2]; exact Int.ediv_le_self _ (by omega)
    omega
end DL
namespace DL
section
variable {te : TD} {t u : TDS} {E : EndsD} {sl s' : DSt} {i : Nat}
theorem set_cutO (R : List D → Prop) (h : ∀ Q : DV → DSt → Prop, (∀ ds, R ds → Q (.own (.lst ds)) s') → te sl Q E.xc) (q : ∀ ds, R ds → u E (s'.set i (some (.own (.lst ds))))) : dSeq (dSet te i) u E sl := h _ q
theorem set_cutQ (R : D → Prop) (h : ∀ Q : DV → DSt → Prop, (∀ x, R x → Q (.d x) s') → te sl Q E.xc) (q : ∀ x, R x → u E (s'.set i (some (.d x)))) : dSeq (dSet te i) u E sl := h _ q
theorem chk_cutS (h : ∀ Q : DV → DSt → Prop, Q (.d (.bl true)) s' → te sl Q E.xc) (q : u E s') : dSeq (dIf (dNot (dTru te)) t dNext) u E sl := h _ (l_truB (brF q))
theorem chk_endS (h : ∀ Q : DV → DSt → Prop, Q (.d (.bl true)) s' → te sl Q E.xc) (q : E.nx s') : dIf (dNot (dTru te)) t dNext E sl := h _ (l_truB (brF q))
end
theorem rep_flat {α : Type} (x : α) : ∀ n : Nat, (List.replicate n [x]).flatten = List.replicate n x
  | 0 => rfl
  | n + 1 => by rw [List.replicate_succ, List.flatten_cons, rep_flat x n, List.replicate_succ]; rfl
theorem cut_take {α : Type} {xs : List α} {k : Nat} (h : k ≤ xs.length) : cut xs none (some (k : Int)) = xs.take k := by
  unfold cut
  have e1 : HT.sIx xs.length 0 none = 0 := rfl
  have e2 : HT.sIx xs.length xs.length (some (k : Int)) = k := by
    rw [HT.sIx_nat]; omega
  rw [e1, e2]; simp
theorem cut_drop {α : Type} {xs : List α} {k : Nat} (h : k ≤ xs.length) : cut xs (some (k : Int)) none = xs.drop k := by
  unfold cut
  have e1 : HT.sIx xs.length xs.length none = xs.length := rfl
  have e2 : HT.sIx xs.length 0 (some (k : Int)) = k := by
    rw [HT.sIx_nat]; omega
  rw [e1, e2, List.take_of_length_le (by rw [List.length_drop]; omega)]
end DL

set_option Elab.async false
set_option linter.all false
set_option maxRecDepth 100000
set_option autoImplicit false
set_option maxHeartbeats 2000000
/-! lists lent to a call; a new list changed and dropped; two names at once, held alone; bool() of own classes; constants of own classes -/
namespace DL
open PySem PySem.Spec PyProof.Rows L2
/-! ### lent arguments -/
def lendV : DV → DV
  | .own o => .d (pubO o)
  | .see (.lst ds) => .bor (.lst ds)
  | .see (.ins x C fs) => .bor (.ins x C fs)
  | .see _ => .d .any
  | x => x
theorem lendV_not (dv : DV) : ∀ o, lendV dv ≠ .own o := fun o h => by
  cases dv with
  | see o' => cases o' <;> cases h
  | _ => cases h
theorem lend_ok {K : PySem.W.Frag} {G H : Hp} {so : So} {v : V} {dv : DV} (h : VOk K G so H v (pubV dv)) : VOk K G so H v (lendV dv) := by
  cases dv with
  | see o =>
    cases o with
    | dk _ => exact .any _
    | dt _ => exact .any _
    | _ => exact h
  | _ => exact h
def dLend (ta : TD) (tr : TDA) : TDA := fun sl Q E => ta sl (fun x s1 => tr s1 (fun xs s2 => Q (lendV x :: xs) s2) E) E
section
variable {X : Cx} {W : WX} {e : Expr} {es : List Expr} {ta te : TD} {tr tk : TDA} {p pos kpos : Pos} {kws : List Keyword} {nm : Option Str}
theorem da_lend (ha : DE X W e ta) (hr : DA X W es tr) (hs : starEach (e :: es) X.env = (false, eval e X.env) :: starEach es X.env := by rfl) : DA X W (e :: es) (dLend ta tr) := by
  refine pa_imp (pa_cons ha hr hs) fun σ H R ⟨G, so, sl, Q, E, rep, q, hq, hx⟩ => ?_
  refine ⟨G, so, sl, _, E, rep, q, fun x H1 G1 dx s1 p1 h1 => ?_, hx⟩
  obtain ⟨G1', p1'⟩ := p1.pub
  refine ⟨G1', so, s1, _, E, p1'.rep, h1, fun vs H2 G2 ds s2 p2 w h2 => ?_, hx.step p1'.toPost⟩
  exact hq (x :: vs) H2 G2 (lendV dx :: ds) s2 (p1'.toPost.trans p2) (.cons (lend_ok (p1'.over p2)) (lendV_not dx) w) h2
end
section
variable {X : Cx} {W : WX} {e : Expr} {te : TD} {tk : TDA} {kpos : Pos} {kws : List Keyword} {nm : Str}
theorem dk_lend (ha : DE X W e te) (hr : DK X W kws tk) : DK X W (⟨nm, e, kpos⟩ :: kws) (dLend te tk) := by
  refine pk_imp (pk_cons ha hr) fun σ H R ⟨G, so, sl, Q, E, rep, q, hq, hx⟩ => ?_
  refine ⟨G, so, sl, _, E, rep, q, fun x H1 G1 dx s1 p1 h1 => ?_, hx⟩
  obtain ⟨G1', p1'⟩ := p1.pub
  refine ⟨G1', so, s1, _, E, p1'.rep, h1, fun vs H2 G2 ds s2 p2 w h2 => ?_, hx.step p1'.toPost⟩
  exact hq (x :: vs) H2 G2 (lendV dx :: ds) s2 (p1'.toPost.trans p2) (.cons (lend_ok (p1'.over p2)) (lendV_not dx) w) h2
end
/-! ### __init__ with lent lists -/
/-- an argument that is a tree or a lent list -/
def Lent (x : DV) : Prop := (∃ d, x = .d d) ∨ ∃ ds, x = .bor (.lst ds)
def itemsV : DV → Option (List D)
  | .d d => itemsD d
  | .bor (.lst ds) => some ds
  | _ => none
theorem fnIB_of {P : Program} {w : World} {K : PySem.W.Frag} {mg : Str → Option Value} {base : Heap} {n qual : Str} {params : Arguments} {body : List Stmt} {scope : Scope} {dvs : List V} {kws : List (Str × V)} {f C : Addr} {fd : FuncData} {N ps : List Str} {k : Nat} {sp : SpI} {t : TDS}
    (F : FunD K n qual params body scope dvs kws f fd) (S : FnScope N ps scope) (len : ∀ args Q E, sp args Q E → args.length + 1 = ps.length) (nsee : ∀ args Q E, sp args Q E → ∀ x ∈ args, Lent x)
    (hd : ∀ (cdv : Value) (A : Around) (outer : List Env) (s : Shared) (H : Hp) (E : XK), Room k (A.deeper (envOfC qual scope s.heap.objs.size f cdv)) → (cxOf (L2N.CX P w) P w K mg base N qual scope f cdv A outer s H E).A.guards = some [] →
      DSs (cxOf (L2N.CX P w) P w K mg base N qual scope f cdv A outer s H E) (fun cls d _ H' => E cls d H') body t)
    (hr : ∀ args Q E x, sp args Q E → t { nx := endI x C Q, rt := fun _ => False, bk := fun _ => False, ct := fun _ => False, xc := fun cls fs _ => E cls fs } (startD N (.own (.ins x C []) :: args))) : FnR P w K mg base (k + 1) f fd ps (upIn K C sp) := by
  refine fnR_of F S (fun vs H Q E h => ?_) (fun cdv A outer s H vs Q E hroom hg h => ?_)
  · obtain ⟨x, vs', G, so, args, QD, ED, rfl, _, _, _, _, w1, q, _⟩ := h
    rw [List.length_cons, w1.length]; exact len _ _ _ q
  · obtain ⟨x, vs', G, so, args, QD, ED, rfl, hrep, ow, gx, sx, w1, q, hq, hx⟩ := h
    have only : ∀ a, Own (startD N (.own (.ins x C []) :: args)) (L2.start N (.ref x :: vs')) a → a = x := fun a ⟨i, o, e1, e2⟩ => by
      rcases start_get0 e1 with ⟨rfl, _⟩ | ⟨j, rfl, z⟩
      · have : (L2.start N (.ref x :: vs'))[0]? = some (some (.ref x)) := start_at rfl
        rw [this] at e2; cases e2; rfl
      · obtain ⟨_, _, _, n⟩ := w1.get z
        exact absurd rfl (n o)
    have rep : Rep K G so (L2.start N (.ref x :: vs')) H (startD N (.own (.ins x C []) :: args)) := by
      refine ⟨hrep, by unfold startD L2.start; simp [w1.length], fun i d e => ?_, fun i j o o' a e1 e2 _ _ => ?_, fun i o a e1 e2 => ?_, fun i o e1 => ?_⟩
      · rcases start_get0 e with ⟨rfl, rfl⟩ | ⟨j, rfl, z⟩
        · exact ⟨.ref x, start_at rfl, x, rfl, gx, sx, ow⟩
        · obtain ⟨v, e1, e2, _⟩ := w1.get z
          exact ⟨v, start_at (by simpa using e1), e2⟩
      · rcases start_get0 e1 with ⟨rfl, _⟩ | ⟨j', rfl, z⟩
        · rcases start_get0 e2 with ⟨rfl, _⟩ | ⟨j', rfl, z⟩
          · rfl
          · obtain ⟨_, _, _, n⟩ := w1.get z
            exact absurd rfl (n o')
        · obtain ⟨_, _, _, n⟩ := w1.get z
          exact absurd rfl (n o)
      · rcases start_get0 e1 with ⟨_, z⟩ | ⟨j', rfl, z⟩
        · cases z
        · intro oo
          have ax := only a oo
          subst ax
          rcases nsee _ _ _ q _ (List.mem_of_getElem? z) with ⟨d, y⟩ | ⟨ds, y⟩
          · cases y
          · cases y
            obtain ⟨v, g1, g2, _⟩ := w1.get z
            obtain ⟨b, rfl, _, vs1, g3, _⟩ := g2
            have : (L2.start N (.ref a :: vs'))[j' + 1]? = some (some (.ref b)) := start_at (by simpa using g1)
            rw [this] at e2
            cases e2
            obtain ⟨_, dx, vs2, g4, _⟩ := ow
            rw [g3] at g4; cases g4
      · rcases start_get0 e1 with ⟨_, z⟩ | ⟨j', rfl, z⟩
        · cases z
        · rcases nsee _ _ _ q _ (List.mem_of_getElem? z) with ⟨d, y⟩ | ⟨ds, y⟩ <;> cases y
    refine ⟨_, hd cdv A outer s H E hroom hg, G, so, _, _, rep, hr args QD ED x q, ⟨fun σ' H' G' sl' p z => ?_, fun _ _ _ _ _ z => z.elim, fun _ _ _ _ _ z => z.elim, fun _ _ _ _ _ z => z.elim, fun cls d σ' H' G' fs sl' p z1 z2 => ?_⟩⟩
    · obtain ⟨fs, e, z⟩ := z
      obtain ⟨v, _, a, rfl, ga, _, ok⟩ := p.rep.slots 0 _ e
      have ax : a = x := ok.1
      subst ax
      exact hq H' G' fs ⟨⟨p.ex, p.rep.h, fun b o e s n => p.keep b o e s fun z => n (only b z), fun b n1 g s n => p.frm b n1 g s fun z => n (only b z)⟩, ok, ga⟩ z
    · exact hx cls d H' G' fs ⟨p.ex, p.rep.h, fun b o e s n => p.keep b o e s fun z => n (only b z), fun b n1 g s n => p.frm b n1 g s fun z => n (only b z)⟩ z1 z2
/-! ### enumerate over what may be lent -/
@[irreducible] def enumVR (x : DV) (P : List D → Prop) : Prop := match itemsV x with
  | some ds => P (enumFrom 0 ds)
  | none => False
def dEnumV (te : TD) : TDI := fun sl Q E => te sl (fun x s1 => enumVR (pubV x) fun ds => Q ds s1) E
theorem di_enumV {X : Cx} {W : WX} {e : Expr} {te : TD} {pos p : Pos} {elts : List Expr} {kk : Nat} {tpos : Pos} (hg : Gl X "enumerate") (hm : X.mg "enumerate" = none) (h : DE X W e te) (hs : starEach [e] X.env = [(false, eval e X.env)] := by rfl) : DI X W (.Tuple elts kk tpos) (.Call (.Name "enumerate" p) [e] [] pos) (dEnumV te) := by
  refine pi_imp (pi_enumU hg hm (pa_cons h pa_nil hs) hs) fun σ H R ⟨G, so, sl, Q, E, rep, q, hq, hx⟩ => ?_
  refine ⟨G, so, sl, _, E, rep, q, fun x H1 G1 dx s1 p1 h1 => ?_, hx⟩
  obtain ⟨G1', p2⟩ := p1.pub
  unfold enumVR at h1
  have w := p2.val
  generalize pubV dx = z at h1 w p2
  split at h1
  · rename_i ds ed
    unfold itemsV at ed
    split at ed
    · rename_i d
      cases d with
      | tup es =>
        cases ed
        have w1 : DOk X.K G1' x (.tup ds) := w
        cases w1 with
        | tup g al => exact ⟨_, _, rfl, .inr ⟨ex_t p2.rep.h.ex g, hq _ H1 G1' _ s1 p2.toPost (it_enumT p2.rep g al) h1⟩⟩
      | lst es =>
        cases ed
        have w1 : DOk X.K G1' x (.lst ds) := w
        cases w1 with
        | lst g al => exact ⟨_, _, rfl, .inl ⟨SqL.of (p2.rep.h.ex _ _ g), hq _ H1 G1' _ s1 p2.toPost (it_enum (p2.rep.h.ex _ _ g) al (p2.rep.h.nsrc g) (rep_own p2.rep g)) h1⟩⟩
      | _ => cases ed
    · cases ed
      obtain ⟨a, rfl, sa, vs, g, al⟩ := w
      exact ⟨_, _, rfl, .inl ⟨SqL.of g, hq _ H1 G1' _ s1 p2.toPost (it_enum g al sa (p2.sepv a _ (.inr rfl) rfl)) h1⟩⟩
    · cases ed
  · exact h1.elim
theorem l_enumV {x : DV} {ds : List D} {P : List D → Prop} (h : itemsV x = some ds) (q : P (enumFrom 0 ds)) : enumVR (pubV x) P := by
  unfold enumVR
  have : pubV x = x := by
    cases x with
    | own o => cases h
    | _ => rfl
  rw [this, h]; exact q
theorem l_iterV {x : DV} {ds : List D} {P : List D → Prop} (h : itemsV x = some ds) (q : P ds) : iterR (pubV x) P := by
  unfold itemsV at h
  split at h
  · exact l_iterD h q
  · cases h; exact l_iterB q
  · cases h
/-! ### e.append(v), the list new -/
def dAppT (to te : TD) : TDS := fun E sl => to sl (fun x s1 => match x with
  | .own (.lst ds) => te s1 (fun y s2 => match pubV y with
    | .d _ => ds.length < szl ∧ E.nx s2
    | _ => False) E.xc
  | _ => False) E.xc
section
variable {K : PySem.W.Frag} {G G2 : Hp} {so : So} {σ : L2.St} {H H2 : Hp} {sl s2 : DSt} {a : Addr} {u : HO}
theorem PostS.tmp (p : Post K G so σ H sl H2 G2 s2) (new : H a = none ∨ Own sl σ a) (g : G2 a = none) (s : so.Nt a) (n : ¬ Own s2 σ a) (nb : ∀ (i : Nat) (o : OO), s2[i]? = some (some (.bor o)) → σ[i]? = some (some (.ref a)) → False) : PostS K G so σ H sl σ (upd H2 a u) G2 s2 := by
  have old : ∀ b o, H b = some o → ¬ Own sl σ b → b ≠ a := fun b o e w z => by
    subst z
    rcases new with y | y
    · rw [e] at y; cases y
    · exact w y
  refine ⟨p.ex, ⟨⟨fun b o e => ?_, fun b k q => ?_, p.rep.h.ok⟩, p.rep.len, fun i dv e => ?_, p.rep.sep, p.rep.bor, p.rep.nse⟩, fun b o e sb w => ?_, fun b n1 g1 sb w => p.frm b n1 g1 sb w, fun b n1 sb w z => w (p.sub b z), rfl⟩
  · have : b ≠ a := fun z => by rw [z, g] at e; cases e
    rw [upd_ne this]; exact p.rep.h.ex b o e
  · have : b ≠ a := fun z => s ⟨k, z ▸ q⟩
    exact (p.rep.h.vol b k q).keep (Ex.refl _) (p.rep.h.vol b k q).g (upd_ne this)
  · obtain ⟨v, e1, w⟩ := p.rep.slots i dv e
    refine ⟨v, e1, ?_⟩
    cases dv with
    | d x => exact w
    | src => exact w
    | own o =>
      obtain ⟨b, rfl, g1, s1, k⟩ := w
      have : b ≠ a := fun z => n ⟨i, o, e, z ▸ e1⟩
      exact ⟨b, rfl, g1, s1, k.keep (Ex.refl _) (upd_ne this)⟩
    | bor o =>
      obtain ⟨b, rfl, s1, k⟩ := w
      have : b ≠ a := fun z => nb i o e (z ▸ e1)
      exact ⟨b, rfl, s1, k.keep (Ex.refl _) (upd_ne this)⟩
    | see o => exact absurd e (p.rep.nse i o)
  · rw [upd_ne (old b o e w)]; exact p.keep b o e sb
end
section
variable {X : Cx} {W : WX} {o value : Expr} {to te : TD} {pos pos' : Pos}
theorem ds_appT (ho : DE X W o to) (hv : DE X W value te) (hbase : attributeBase o "append" X.env (eval o X.env) = eval o X.env := by rfl)
    (hfew : ((backTo pos (starEach [value] X.env)).all (fun x => !x.1) && (backToKw pos (keywordEach [] X.env)).all (fun x => x.1.isSome)
      && decide ([value].length + ([] : List Keyword).length + (if ([] : List Keyword).isEmpty then 0 else 1) < 30)) = true := by rfl)
    (hline : (pos'.endLine == pos.line) = true := by rfl) (hs : starEach [value] X.env = (false, eval value X.env) :: starEach [] X.env := by rfl) (hplain : (backTo pos (starEach [] X.env)).any (·.1) = false := by rfl) {spos : Pos}
    (hsw : swapsWith (.Call (.Attribute o "append" pos') [value] [] pos) none spos.line X.env = pure false := by rfl) :
    DS X W (.Expr (.Call (.Attribute o "append" pos') [value] [] pos) spos) (dAppT to te) := by
  refine ps_imp (ps_expr (pe_bm PySem.F.plainAttrs_list PySem.F.slot_list_append PySem.F.type_list_append mt_append ho (pa_cons hv pa_nil hs) hbase hfew hline hs hplain) hsw) fun D σ H ⟨G, so, sl, E, rep, q, ok⟩ => ?_
  refine ⟨G, so, sl, _, E.xc, rep, q, fun x H1 G1 dx s1 p1 z => ?_, ok.xc.ex⟩
  split at z
  · rename_i ds
    obtain ⟨a, rfl, ga, sa, vs, h1, h2⟩ := p1.val
    refine ⟨.inl ⟨rfl, _, SqL.of h1⟩, ?_⟩
    refine ⟨G1, so, s1, _, E.xc, p1.rep, z, fun y H2 G2 dy s2 p2 z2 => ?_, (ok.step p1.toPost.s).xc.ex⟩
    obtain ⟨G3, p3⟩ := p2.pub
    split at z2
    · obtain ⟨l, z2⟩ := z2
      have k1 : H2 a = some (.lst vs) := p3.keep a _ h1 sa
      have n1 : ¬ Own s1 σ a := p1.sepv a _ (.inl rfl) rfl
      refine ⟨a, vs, y, rfl, rfl, k1, by rw [h2.length]; exact l, ?_⟩
      refine ok.nx σ _ G3 _ (PostS.tmp (p1.toPost.trans p3.toPost) (p1.new a _ rfl rfl) (p3.frm a (by rw [h1]; simp) ga sa n1) sa (fun w => n1 (p3.sub a w)) (fun i o e1 e2 => ?_)) z2
      obtain ⟨o', e3⟩ := p3.bsub i o e1
      exact p1.nbs a _ i o' rfl rfl e3 e2
    · exact z2.elim
  · exact z.elim
end
/-! ### two names at once, what is held alone stays so -/
def keepR : DV → Prop
  | .see _ => False
  | .bor _ => False
  | _ => True
def dParO (i j : Nat) (ta tb : TD) : TDS := fun E sl => ta sl (fun x s1 => tb s1 (fun y s2 => keepR x ∧ keepR y ∧ E.nx ((s2.set i (some x)).set j (some y))) E.xc) E.xc
section
variable {X : Cx} {W : WX} {a b : Expr} {ta tb : TD} {i j : Nat} {x y : Str} {pos : Pos}
theorem ds_parO {px py pt kt k2 pt2} (hc : X.calm = true) (hN : X.N.Nodup) (hi : X.N[i]? = some x) (hj : X.N[j]? = some y) (hij : i ≠ j)
    (hx : X.env.scope.names.lookup x = some .local) (hy : X.env.scope.names.lookup y = some .local) (ha : DE X W a ta) (hb : DE X W b tb)
    (hw : swappedStores [.Tuple [.Name x px, .Name y py] kt pt] (.Tuple [a, b] k2 pt2) X.env = pure (some [x, y]))
    (hs : swapsWithSole [.Tuple [.Name x px, .Name y py] kt pt] (.Tuple [a, b] k2 pt2) pos.line X.env = pure false := by rfl)
    (hs1 : starEach [a, b] X.env = (false, eval a X.env) :: starEach [b] X.env := by rfl) (hs2 : starEach [b] X.env = (false, eval b X.env) :: starEach [] X.env := by rfl) :
    DS X W (.Assign [.Tuple [.Name x px, .Name y py] kt pt] (.Tuple [a, b] k2 pt2) pos) (dParO i j ta tb) := by
  refine ps_len (ps_par hc hN hi hj hij hx hy (pa_cons ha (pa_cons hb pa_nil hs2) hs1) hw hs) fun D σ H hl ⟨G, so, sl, E, rep, q, ok⟩ => ?_
  have li : i < σ.length := by rw [hl]; exact (List.getElem?_eq_some_iff.mp hi).1
  have lj : j < σ.length := by rw [hl]; exact (List.getElem?_eq_some_iff.mp hj).1
  refine ⟨G, so, sl, _, E.xc, rep, q, fun v1 H1 G1 dx s1 p1 z => ?_, ok.xc.ex⟩
  refine ⟨G1, so, s1, _, E.xc, p1.rep, z, fun v2 H2 G2 dy s2 p2 z2 => ?_, (ok.step p1.toPost.s).xc.ex⟩
  obtain ⟨kx, ky, z2⟩ := z2
  have P := p1.toPost.trans p2.toPost
  obtain ⟨r1, sub1⟩ := set_slot (i := i) (H1 := H) (s1 := sl) (σ1 := σ) li (fun o e => by rw [e] at kx; exact kx) P.rep (p1.over p2.toPost) (fun c o e e2 w => p1.sepv c o e e2 (p2.sub c w)) (fun c o i' o' e1 e2 e3 e4 => by
    obtain ⟨o2, e5⟩ := p2.bsub i' o' e3
    exact p1.nbs c o i' o2 e1 e2 e5 e4) p1.new (fun c _ _ w w2 => w (P.sub c w2))
  obtain ⟨r2, sub2⟩ := set_slot (i := j) (H1 := H) (s1 := sl) (σ1 := σ) (by rw [List.length_set]; exact lj) (fun o e => by rw [e] at ky; exact ky) r1 p2.val (fun c o e e2 w => by
    have eo : dy = .own o := by
      rcases e with e | e
      · exact e
      · rw [e] at ky; exact ky.elim
    obtain ⟨k, o', e3, e4⟩ := w
    rcases get_set e3 with ⟨rfl, e5⟩ | ⟨nk, e5⟩
    · obtain rfl : dx = .own o' := (Option.some.inj e5).symm
      rw [List.getElem?_set_self li] at e4
      obtain rfl : v1 = .ref c := Option.some.inj (Option.some.inj e4)
      obtain ⟨c', q', g, s, kk⟩ := p1.val
      cases q'
      rcases p2.new c o eo e2 with y | y
      · exact kk.there y
      · exact p1.sepv c o' (.inl rfl) rfl y
    · rw [List.getElem?_set_ne (Ne.symm nk)] at e4
      exact p2.sepv c o e e2 ⟨k, o', e5, e4⟩) (fun c o i' o' e1 e2 e3 e4 => by
    rcases get_set e3 with ⟨rfl, e5⟩ | ⟨nk, e5⟩
    · obtain rfl : dx = .bor o' := (Option.some.inj e5).symm
      exact kx.elim
    · rw [List.getElem?_set_ne (Ne.symm nk)] at e4
      exact p2.nbs c o i' o' e1 e2 e5 e4) (fun c o e1 e2 => (p2.new c o e1 e2).imp p1.toPost.back (p1.sub c)) sub1
  exact ⟨v1, v2, rfl, ok.nx _ H2 G2 _ ⟨P.ex, r2, fun c o e s w => P.keep c o e s, P.frm, sub2, by simp⟩ z2⟩
end
/-! ### bool(an instance) by its __bool__ -/
theorem meets_bool_ref {prog : Program} {w : World} {x : Addr} {S : PySem.Spec} (h : ∀ (A : Around) (R : Result → Shared → Prop) (s : Shared), S A R s → wpAny (model prog w) A.in1 (truthy (.ref x)) (fun b s' => R (.ok (.ret (.bool b))) s') (fun e s' => R (.error e) s') s) :
    MeetsIn prog w (Builtin.«bool.__new__» ⟨[.type "bool", .ref x], []⟩) S :=
  MeetsIn.of_wp fun A R s hs => by
    have h1 := h A R s hs
    have f1 := F.conv_sub_bool
    repeat (any_goals (first | assumption | (with_reducible refine wpAny_mono h1 (fun b s' hb => ?_) (fun _ _ z => z)) | wp_step))
    all_goals first | exact ⟨_, rfl, hb⟩ | skip
theorem call_bool_ref {prog : Program} {w : World} {A : Around} {E : Value → Shared → Prop} {s : Shared} {x : Addr} {Q : Value → Shared → Prop} (h : wpAny (model prog w) A.in1.in1 (truthy (.ref x)) (fun b s' => Q (.bool b) s') E s) : wpAny (model prog w) A (call (.type "bool") [.ref x]) Q E s :=
  callType_newIn F.called_bool F.newNe_bool (F.typeCall_bool_1 _) (F.newCall_bool_1 _) (fun obj => F.args_object_init_2 obj _) F.entry_bool_new (S := fun A' R s' => wpAny (model prog w) A'.in1 (truthy (.ref x)) (fun b s'' => R (.ok (.ret (.bool b))) s'') (fun e s'' => R (.error e) s'') s') (meets_bool_ref fun A' R s' z => z)
    (wpAny_mono h (fun b s'' z => ⟨rfl, z⟩) fun _ _ z => z)
section
variable {X : Cx} {k : Nat} {f C : Addr} {fd : FuncData} {ps : List Str} {sp : SpD}
def rBoolI (K : PySem.W.Frag) (C : Addr) (sp : SpD) : List V → Hp → VK → Prop := fun xs H Q => ∃ a dx fs, xs = [.ref a] ∧ H a = some (.ins C dx fs) ∧ upSp K sp xs H (fun v H' => ∃ b : Bool, v = .bl b ∧ Q v H') fun _ _ _ => False
theorem call_boolI (hm : Meth X.K C "__bool__" f) (F : FnG X.prog X.w X.K X.mg X.base k f fd ps sp) (hr : Room (k + 2) X.A) (hg : X.A.guards = some []) (hb : Binds X.K fd ps []) : CallR X (.type "bool") (rBoolI X.K C sp) := by
  intro pins s σ H xs us Q I r h
  obtain ⟨a, dx, fs, rfl, e, q⟩ := h
  obtain ⟨u, rfl, ru⟩ : ∃ u, us = [u] ∧ RelV (.ref a) u := by
    cases r with
    | cons ru t => cases t; exact ⟨_, rfl, ru⟩
  cases ru
  obtain ⟨mA, J, _⟩ := ins_get I.hok e
  obtain ⟨od, J, _⟩ := J.look
  obtain ⟨m, hF⟩ := I.fr
  refine call_bool_ref (PySem.W.truthy_K (h₀ := X.base) hF I.ok.mod.kin J hm.at_ hm.fn ?_)
  refine wpAny_mono (run_dun (A := X.A.in1.in1) F (hr.in1.in1) hg rfl hb I r q) (fun v s' hv => ?_) fun _ _ x => x
  obtain ⟨y, H', I', ry, b, rfl, hq⟩ := hv
  obtain rfl : v = .bool b := ry
  exact ⟨.bl b, H', I', rfl, hq⟩
@[irreducible] def boolIR (C : Addr) (sp : SpD) : List DV → (DV → Prop) → Prop
  | [.d (.ins D fs)], Q => D = C ∧ sp [.d (.ins D fs)] (fun v => match v with
    | .d (.bl n) => Q (.d (.bl n))
    | _ => False) fun _ _ => False
  | _, _ => False
theorem sem_boolI {K : PySem.W.Frag} : CallSem K (rBoolI K C sp) (boolIR C sp) := by
  intro G so H xs dxs Q R h w q k
  unfold boolIR at q
  split at q
  · rename_i D fs
    obtain ⟨rfl, q⟩ := q
    obtain ⟨v, rfl, w1, _⟩ := w.v1
    obtain ⟨a, dx, vs, rfl, e, _⟩ := VOk.inst h w1 rfl
    refine ⟨a, dx, vs, rfl, e, G, so, _, _, _, h, .cons w1 (fun _ e => (nomatch e)) .nil, q, fun v H' G' dv p z => ?_, fun _ _ _ _ _ _ _ z => z⟩
    split at z
    · rename_i n
      have : v = .bl n := by
        have := p.val
        cases this; rfl
      subst this
      exact ⟨n, rfl, k _ H' G' _ p z⟩
    · exact z.elim
  · exact q.elim
theorem l_boolI {fs : List (Str × D)} {Q : DV → Prop} (h : sp [.d (.ins C fs)] (fun v => match v with | .d (.bl n) => Q (.d (.bl n)) | _ => False) fun _ _ => False) : boolIR C sp [.d (.ins C fs)] Q := by
  unfold boolIR
  exact ⟨rfl, h⟩
end
/-! ### a constant of an own class -/
def cvB (K : PySem.W.Frag) (C f : Str) (d : D) : Bool := PySem.W.readsIn K (He.ga K C) (.type "type") && (decide (PySem.W.specialIn K (.ref (He.ga K C)) "__getattribute__" = some (some (.builtin "type.__getattribute__"))) && (match PySem.W.findCls K (.ref (He.ga K C)) (.type "type") f with
  | some (.val u) => datB K d u
  | _ => false))
/-- C.f is the tree d -/
def CConst (K : PySem.W.Frag) (C : Addr) (f : Str) (d : D) : Prop := ∃ v u, ClX.CRead K C (.type "type") ∧ ClX.CVal K C (.type "type") f v u ∧ ∀ G, DOk K G v d
theorem cvB_ok {K : PySem.W.Frag} {C f : Str} {d : D} (h : cvB K C f d = true) : CConst K (He.ga K C) f d := by
  obtain ⟨h1, h2⟩ := He.ba h
  obtain ⟨h3, h4⟩ := He.ba h2
  split at h4
  · rename_i u e
    obtain ⟨v, r, w⟩ := datB_ok d u h4
    exact ⟨v, u, ⟨h1, of_decide_eq_true h3⟩, ⟨e, r⟩, w⟩
  · cases h4
theorem cv_ok {l : LX} {fa : List He.Fa} {fn : List He.DefD} {h : Heap} {K : PySem.W.Frag} {C f : Str} {d : D} (S : SaysX l fa fn h K) {i : Nat} (e : l.xs[i]? = some (fun K => cvB K C f d)) : CConst K (He.ga K C) f d :=
  cvB_ok (List.all_eq_true.mp (He.ba (He.ba S.c).2).2 _ (List.mem_of_getElem? e))
theorem de_cval {X : Cx} {W : WX} {e : Expr} {C : Addr} {f : Str} {d : D} {pos : Pos} (c : CConst X.K C f d) (he : PE X e (tC (.ref C))) (hb : attributeBase e f X.env (eval e X.env) = eval e X.env := by rfl) : DE X W (.Attribute e f pos) (dC d) := by
  obtain ⟨v, u, c1, c2, w⟩ := c
  refine pe_imp (ClX.pe_cval he hb) fun σ H R ⟨G, so, sl, Q, E, rep, q, hq, _⟩ => ?_
  exact ⟨C, _, v, u, rfl, c1, c2, hq v H G _ sl ((Post.refl rep).thenV (.dat rep.h (w G))) q⟩
end DL

set_option Elab.async false
set_option linter.all false
set_option maxRecDepth 100000
set_option autoImplicit false
set_option maxHeartbeats 2000000
/-! pairs of lists, equality of trees, lengths of shown numbers -/
namespace DL
open PySem PySem.Spec PyProof.Rows L2
inductive Fa2 {α β : Type} (R : α → β → Prop) : List α → List β → Prop
  | nil : Fa2 R [] []
  | cons {x : α} {y : β} {xs : List α} {ys : List β} (h : R x y) (t : Fa2 R xs ys) : Fa2 R (x :: xs) (y :: ys)
section
variable {α β γ : Type} {R : α → β → Prop} {xs : List α} {ys : List β}
theorem Fa2.len (h : Fa2 R xs ys) : ys.length = xs.length := by
  induction h with
  | nil => rfl
  | cons _ _ ih => rw [List.length_cons, List.length_cons, ih]
theorem Fa2.mem (h : Fa2 R xs ys) : ∀ y ∈ ys, ∃ x ∈ xs, R x y := by
  induction h with
  | nil => intro y hy; cases hy
  | cons h _ ih =>
    intro y hy
    rcases List.mem_cons.mp hy with rfl | hy
    · exact ⟨_, List.mem_cons_self .., h⟩
    · obtain ⟨x, h1, h2⟩ := ih y hy
      exact ⟨x, List.mem_cons_of_mem _ h1, h2⟩
theorem Fa2.map_eq {f : α → γ} {g : β → γ} (h : Fa2 R xs ys) (k : ∀ x y, R x y → g y = f x) : ys.map g = xs.map f := by
  induction h with
  | nil => rfl
  | cons h _ ih => rw [List.map_cons, List.map_cons, k _ _ h, ih]
theorem Fa2.app {zs : List α} {ws : List β} (h : Fa2 R xs ys) (t : Fa2 R zs ws) : Fa2 R (xs ++ zs) (ys ++ ws) := by
  induction h with
  | nil => exact t
  | cons h _ ih => exact .cons h ih
theorem Fa2.mono {S : α → β → Prop} (h : Fa2 R xs ys) (k : ∀ x y, R x y → S x y) : Fa2 S xs ys := by
  induction h with
  | nil => exact .nil
  | cons h _ ih => exact .cons (k _ _ h) ih
end
section
variable {g : TDG} {tt : TDT} {te : TD} {vs : List Nat} {Q : DV → DSt → Prop}
/-- a comprehension, each entry beside its item -/
theorem lcL_pair (R : D → D → Prop) (S : DSt) {ds0 : List D} (hl : ds0.length ≤ szl)
    (step : ∀ d ∈ ds0, ∀ (M : D → DSt → Prop) (A : DSt → Prop), (∀ y, R d y → M y S) → g d S fun s1 => tt s1 (fun b s2 => Br b (te s2 (fun x s3 => match pubV x with
      | .d y => M y (wipeD s3 vs)
      | _ => False) fun _ _ _ => False) (A (wipeD s2 vs))) fun _ _ _ => False) (q : ∀ xs : List D, Fa2 R ds0 xs → Q (.own (.lst xs)) S) : dLcL g tt te vs Q ds0 [] S := by
  have go : ∀ (ds done acc : List D), done ++ ds = ds0 → Fa2 R done acc → dLcL g tt te vs Q ds acc S := by
    intro ds
    induction ds with
    | nil => intro done acc h1 h3; rw [lcL_nil]; rw [List.append_nil] at h1; subst h1; exact q acc h3
    | cons d r ih =>
      intro done acc h1 h3
      have hl2 : done.length + (r.length + 1) ≤ szl := by
        have := congrArg List.length h1
        rw [List.length_append, List.length_cons] at this
        omega
      have hl3 := h3.len
      rw [lcL_cons]
      refine step d (by rw [← h1]; simp) (fun y s => acc.length < szl ∧ dLcL g tt te vs Q r (acc ++ [y]) s) (fun s => dLcL g tt te vs Q r acc s) (fun y hy => ⟨by omega, ?_⟩)
      exact ih (done ++ [d]) (acc ++ [y]) (by rw [← h1]; simp) (h3.app (.cons hy .nil))
  exact go ds0 [] [] rfl .nil
end
/-! ### == of trees -/
mutual
def eqD : D → D → Bool
  | .lst a, .lst b => eqDs a b
  | .tup a, .tup b => eqDs a b
  | x, y => eqF x y
def eqDs : List D → List D → Bool
  | [], [] => true
  | a :: r, b :: s => eqD a b && eqDs r s
  | _, _ => false
end
mutual
theorem eqD_py : ∀ (d e : D) (p q : PyData), d.py = some p → e.py = some q → PyData.eqv p q = eqD d e
  | .lst a, e, p, q, h1, h2 => by
    rw [D.py] at h1
    obtain ⟨ps, hp, rfl⟩ := Option.map_eq_some_iff.mp h1
    cases e with
    | lst b =>
      rw [D.py] at h2
      obtain ⟨qs, hq, rfl⟩ := Option.map_eq_some_iff.mp h2
      rw [PyData.eqv, eqD]; exact eqDs_py a b ps qs hp hq
    | tup b =>
      rw [D.py] at h2
      obtain ⟨qs, hq, rfl⟩ := Option.map_eq_some_iff.mp h2
      rw [PyData.eqv]; rfl
    | ins _ _ => rw [D.py] at h2; cases h2
    | dk _ => rw [D.py] at h2; cases h2
    | dt _ => rw [D.py] at h2; cases h2
    | any => rw [D.py] at h2; cases h2
    | raw _ => rw [D.py] at h2; cases h2
    | _ => rw [D.py] at h2; cases h2; rw [PyData.eqv]; rfl
  | .tup a, e, p, q, h1, h2 => by
    rw [D.py] at h1
    obtain ⟨ps, hp, rfl⟩ := Option.map_eq_some_iff.mp h1
    cases e with
    | tup b =>
      rw [D.py] at h2
      obtain ⟨qs, hq, rfl⟩ := Option.map_eq_some_iff.mp h2
      rw [PyData.eqv, eqD]; exact eqDs_py a b ps qs hp hq
    | lst b =>
      rw [D.py] at h2
      obtain ⟨qs, hq, rfl⟩ := Option.map_eq_some_iff.mp h2
      rw [PyData.eqv]; rfl
    | ins _ _ => rw [D.py] at h2; cases h2
    | dk _ => rw [D.py] at h2; cases h2
    | dt _ => rw [D.py] at h2; cases h2
    | any => rw [D.py] at h2; cases h2
    | raw _ => rw [D.py] at h2; cases h2
    | _ => rw [D.py] at h2; cases h2; rw [PyData.eqv]; rfl
  | .non, e, p, q, h1, h2 => by
    rw [D.py] at h1; cases h1
    cases e with
    | lst b => rw [D.py] at h2; obtain ⟨qs, hq, rfl⟩ := Option.map_eq_some_iff.mp h2; rw [PyData.eqv]; rfl
    | tup b => rw [D.py] at h2; obtain ⟨qs, hq, rfl⟩ := Option.map_eq_some_iff.mp h2; rw [PyData.eqv]; rfl
    | ins _ _ => rw [D.py] at h2; cases h2
    | dk _ => rw [D.py] at h2; cases h2
    | dt _ => rw [D.py] at h2; cases h2
    | any => rw [D.py] at h2; cases h2
    | raw _ => rw [D.py] at h2; cases h2
    | _ => rw [D.py] at h2; cases h2; rw [PyData.eqv]; rfl
  | .bl x, e, p, q, h1, h2 => by
    rw [D.py] at h1; cases h1
    cases e with
    | lst b => rw [D.py] at h2; obtain ⟨qs, hq, rfl⟩ := Option.map_eq_some_iff.mp h2; rw [PyData.eqv]; rfl
    | tup b => rw [D.py] at h2; obtain ⟨qs, hq, rfl⟩ := Option.map_eq_some_iff.mp h2; rw [PyData.eqv]; rfl
    | ins _ _ => rw [D.py] at h2; cases h2
    | dk _ => rw [D.py] at h2; cases h2
    | dt _ => rw [D.py] at h2; cases h2
    | any => rw [D.py] at h2; cases h2
    | raw _ => rw [D.py] at h2; cases h2
    | _ => rw [D.py] at h2; cases h2; rw [PyData.eqv]; rfl
  | .int x, e, p, q, h1, h2 => by
    rw [D.py] at h1; cases h1
    cases e with
    | lst b => rw [D.py] at h2; obtain ⟨qs, hq, rfl⟩ := Option.map_eq_some_iff.mp h2; rw [PyData.eqv]; rfl
    | tup b => rw [D.py] at h2; obtain ⟨qs, hq, rfl⟩ := Option.map_eq_some_iff.mp h2; rw [PyData.eqv]; rfl
    | ins _ _ => rw [D.py] at h2; cases h2
    | dk _ => rw [D.py] at h2; cases h2
    | dt _ => rw [D.py] at h2; cases h2
    | any => rw [D.py] at h2; cases h2
    | raw _ => rw [D.py] at h2; cases h2
    | _ => rw [D.py] at h2; cases h2; rw [PyData.eqv]; rfl
  | .str x, e, p, q, h1, h2 => by
    rw [D.py] at h1; cases h1
    cases e with
    | lst b => rw [D.py] at h2; obtain ⟨qs, hq, rfl⟩ := Option.map_eq_some_iff.mp h2; rw [PyData.eqv]; rfl
    | tup b => rw [D.py] at h2; obtain ⟨qs, hq, rfl⟩ := Option.map_eq_some_iff.mp h2; rw [PyData.eqv]; rfl
    | ins _ _ => rw [D.py] at h2; cases h2
    | dk _ => rw [D.py] at h2; cases h2
    | dt _ => rw [D.py] at h2; cases h2
    | any => rw [D.py] at h2; cases h2
    | raw _ => rw [D.py] at h2; cases h2
    | _ => rw [D.py] at h2; cases h2; rw [PyData.eqv]; rfl
  | .ins _ _, e, p, q, h1, h2 => by rw [D.py] at h1; cases h1
  | .dk _, e, p, q, h1, h2 => by rw [D.py] at h1; cases h1
  | .dt _, e, p, q, h1, h2 => by rw [D.py] at h1; cases h1
  | .any, e, p, q, h1, h2 => by rw [D.py] at h1; cases h1
  | .raw _, e, p, q, h1, h2 => by rw [D.py] at h1; cases h1
theorem eqDs_py : ∀ (a b : List D) (ps qs : List PyData), D.pyAll a = some ps → D.pyAll b = some qs → PyData.eqvAll ps qs = eqDs a b
  | [], [], ps, qs, h1, h2 => by rw [D.pyAll] at h1 h2; cases h1; cases h2; rfl
  | [], y :: b, ps, qs, h1, h2 => by
    rw [D.pyAll] at h1; rw [D.pyAll] at h2; cases h1
    split at h2 <;> cases h2
    rfl
  | x :: a, [], ps, qs, h1, h2 => by
    rw [D.pyAll] at h1; rw [D.pyAll] at h2; cases h2
    split at h1 <;> cases h1
    rfl
  | x :: a, y :: b, ps, qs, h1, h2 => by
    rw [D.pyAll] at h1 h2
    split at h1
    · rename_i p' ps' e1 e2
      cases h1
      split at h2
      · rename_i q' qs' e3 e4
        cases h2
        rw [PyData.eqvAll, eqDs, eqD_py x y p' q' e1 e3, eqDs_py a b ps' qs' e2 e4]
      · cases h2
    · cases h1
end
theorem fine_sh {b : Nat} {d : D} (h : Fine b d) (hd : dep d ≤ 60 := by decide) (hb : 0 < b := by decide) (hb2 : b ≤ 500 := by decide) : ∃ p, d.py = some p ∧ SeqAt.shaped p = true := by
  obtain ⟨p, w⟩ := fine_shw hb hb2 d h
  exact ⟨p, w.py, by simp [SeqAt.shaped, w.lay, Nat.le_trans w.dp (show dep d ≤ 64 by omega)]⟩
theorem l_eqE {n : Bool} {v w : DV} {d e : D} {Q : DV → Prop} (hv : v.dat = some d) (hw : w.dat = some e) (h1 : ∃ p, d.py = some p ∧ SeqAt.shaped p = true) (h2 : ∃ p, e.py = some p ∧ SeqAt.shaped p = true) (q : Q (.d (.bl (if n then !eqD d e else eqD d e)))) : eqR n v w Q := by
  obtain ⟨p, p1, p2⟩ := h1
  obtain ⟨p', p3, p4⟩ := h2
  unfold eqR
  split
  · cases hv; cases hw
    exact q
  · cases hv; cases hw
    rename_i i j
    have z : eqD (.str i) (.str j) = decide (i = j) := by
      show (i == j) = _
      rw [Bool.eq_iff_iff]; simp
    rw [z] at q
    exact q
  · cases hv; cases hw
    rename_i i j
    have z : eqD (.bl i) (.bl j) = decide (i = j) := by
      show (i == j) = _
      rw [Bool.eq_iff_iff]; simp
    rw [z] at q
    exact q
  · unfold eqDeep
    rw [hv, hw]
    dsimp only
    rw [p1, p3]
    refine ⟨p2, p4, ?_⟩
    rw [eqD_py d e p p' p1 p3]
    exact q
mutual
/-- a tree without truth values -/
def NB : D → Bool
  | .lst ds => NBs ds
  | .tup ds => NBs ds
  | .int _ => true
  | .str _ => true
  | .non => true
  | _ => false
def NBs : List D → Bool
  | [] => true
  | d :: r => NB d && NBs r
end
mutual
theorem eqD_refl : ∀ d : D, Pl d → eqD d d = true
  | .lst a, h => by rw [eqD]; exact eqDs_refl a h.lst
  | .tup a, h => by rw [eqD]; exact eqDs_refl a h.tup
  | .non, _ => rfl
  | .bl b, _ => by show (b == b) = true; simp
  | .int i, _ => by show (i == i) = true; simp
  | .str z, _ => by show (z == z) = true; simp
  | .ins _ _, h => by rw [Pl] at h; exact h.elim
  | .dk _, h => by rw [Pl] at h; exact h.elim
  | .dt _, h => by rw [Pl] at h; exact h.elim
  | .any, h => by rw [Pl] at h; exact h.elim
  | .raw _, h => by rw [Pl] at h; exact h.elim
theorem eqDs_refl : ∀ ds : List D, Pls ds → eqDs ds ds = true
  | [], _ => by rw [eqDs]
  | d :: r, h => by rw [eqDs, eqD_refl d h.hd, eqDs_refl r h.tl]; rfl
end
theorem eqDs_len : ∀ {a b : List D}, eqDs a b = true → a.length = b.length
  | [], [], _ => rfl
  | [], _ :: _, h => by rw [eqDs] at h <;> first | cases h | (intros; simp_all)
  | _ :: _, [], h => by rw [eqDs] at h <;> first | cases h | (intros; simp_all)
  | _ :: r, _ :: s, h => by
    rw [eqDs, Bool.and_eq_true] at h
    rw [List.length_cons, List.length_cons, eqDs_len h.2]
theorem eqDs_ne {a b : List D} (h : a.length ≠ b.length) : eqDs a b = false := by
  cases e : eqDs a b with
  | false => rfl
  | true => exact absurd (eqDs_len e) h
mutual
theorem eqD_eq : ∀ d e : D, NB d = true → NB e = true → eqD d e = true → d = e
  | .lst a, e, h1, h2, h => by
    cases e with
    | lst b => rw [eqD] at h; rw [NB] at h1 h2; rw [eqDs_eq a b h1 h2 h]
    | _ => cases h
  | .tup a, e, h1, h2, h => by
    cases e with
    | tup b => rw [eqD] at h; rw [NB] at h1 h2; rw [eqDs_eq a b h1 h2 h]
    | _ => cases h
  | .non, e, _, h2, h => by
    cases e with
    | non => rfl
    | _ => cases h
  | .int i, e, _, h2, h => by
    cases e with
    | int j => rw [eq_of_beq (show (i == j) = true from h)]
    | bl b => cases h2
    | _ => cases h
  | .str i, e, _, h2, h => by
    cases e with
    | str j => rw [eq_of_beq (show (i == j) = true from h)]
    | _ => cases h
  | .bl _, _, h1, _, _ => by cases h1
  | .ins _ _, _, h1, _, _ => by cases h1
  | .dk _, _, h1, _, _ => by cases h1
  | .dt _, _, h1, _, _ => by cases h1
  | .any, _, h1, _, _ => by cases h1
  | .raw _, _, h1, _, _ => by cases h1
theorem eqDs_eq : ∀ a b : List D, NBs a = true → NBs b = true → eqDs a b = true → a = b
  | [], [], _, _, _ => rfl
  | [], _ :: _, _, _, h => by have := eqDs_len h; simp at this
  | _ :: _, [], _, _, h => by have := eqDs_len h; simp at this
  | x :: r, y :: s, h1, h2, h => by
    rw [eqDs, Bool.and_eq_true] at h
    rw [NBs, Bool.and_eq_true] at h1 h2
    rw [eqD_eq x y h1.1 h2.1 h.1, eqDs_eq r s h1.2 h2.2 h.2]
end
/-! ### texts -/
theorem str_nil (x : Str) : Str.empty ++ x = x := by
  show (⟨#[] ++ x.cps⟩ : Str) = x
  rw [Array.empty_append]
theorem int_len {b : Nat} {i : Int} (h : i.natAbs < 10 ^ b) (hb : 0 < b := by decide) (h2 : b ≤ 500 := by decide) : (toString i : Str).length ≤ b + 1 := (Shw.intN hb h2 h).ln
theorem str_app_len (x y : Str) : (x ++ y).length = x.length + y.length := by
  show (x.cps ++ y.cps).size = x.cps.size + y.cps.size
  rw [Array.size_append]
theorem str_app (x y z : Str) : x ++ y ++ z = x ++ (y ++ z) := by
  show (⟨(x.cps ++ y.cps) ++ z.cps⟩ : Str) = ⟨x.cps ++ (y.cps ++ z.cps)⟩
  rw [Array.append_assoc]
theorem l_varL {i : Nat} {sl : DSt} {Q : DV → DSt → Prop} {E : XP} {x : DV} (h : Lent x) (e : sl[i]? = some (some x)) (q : Q x sl) : dVar i sl Q E := by
  unfold dVar
  rw [e]
  rcases h with ⟨d, rfl⟩ | ⟨ds, rfl⟩ <;> exact q
theorem lg20 {i : Int} (h : i.natAbs < 10 ^ 20) : i.natAbs.log2 < 1920 :=
  PySem.Flt.log2_lt_of (by decide) (Nat.lt_of_lt_of_le h (Nat.le_trans (by decide : 10 ^ 20 ≤ 2 ^ 100) (Nat.pow_le_pow_right (by decide) (by decide))))
/-- a name that may hold a lent list -/
def dVarL (i : Nat) : TD := fun sl Q _ => ∃ x, sl[i]? = some (some x) ∧ Lent x ∧ Q x sl
theorem de_varL {X : Cx} {W : WX} {i : Nat} {n : Str} {pos : Pos} (h : PE X (.Name n pos) (tVar i)) : DE X W (.Name n pos) (dVarL i) := pe_imp (de_var (W := W) h) fun σ H R ⟨G, so, sl, Q, E, rep, ⟨x, e, hl, q⟩, hq, hx⟩ =>
  ⟨G, so, sl, Q, E, rep, l_varL hl e q, hq, hx⟩
/-! ### a slot's list is shared ahead of a statement -/
def pubSl (i : Nat) (sl : DSt) : DSt := match sl[i]? with
  | some (some (.own o)) => sl.set i (some (.d (pubO o)))
  | _ => sl
def dPub (i : Nat) (t : TDS) : TDS := fun E sl => t E (pubSl i sl)
theorem Rep.pubS {K : PySem.W.Frag} {G : Hp} {so : So} {σ : L2.St} {H : Hp} {sl : DSt} (i : Nat) (rep : Rep K G so σ H sl) : ∃ G', Post K G so σ H sl H G' (pubSl i sl) := by
  unfold pubSl
  split
  · rename_i o e
    obtain ⟨v, e1, w⟩ := rep.slots i _ e
    obtain ⟨a, qa, g, s, ok⟩ := w
    subst qa
    obtain ⟨u, eu, dk⟩ := own_ok ok g
    have others : ∀ b, Own (sl.set i (some (.d (pubO o)))) σ b → Own sl σ b ∧ b ≠ a := fun b z => by
      rcases own_set z with ⟨k1, k2⟩ | ⟨k1, j, ne, o', k2, k3⟩
      · exact ⟨k1, fun z => k2 (z ▸ e1)⟩
      · exact ⟨k1, fun z => ne (rep.sep j i o' o a k2 e (z ▸ k3) e1)⟩
    refine ⟨upd G a u, { ex := Ex.new g, rep := ⟨hrep_pub rep.h eu g s, by rw [List.length_set]; exact rep.len, fun j d ej => ?_, fun j k o1 o2 b e1' e2' e3 e4 => ?_, fun j o1 b e1' e2' z => ?_, fun j o1 z => ?_⟩, keep := fun _ _ z _ => z, frm := fun b n1 g1 s1 w => ?_, sub := fun b z => (others b z).1, bsub := fun j o1 z => ?_ }⟩
    · by_cases ji : j = i
      · subst ji
        rw [List.getElem?_set] at ej
        split at ej
        · split at ej
          · cases ej; exact ⟨_, e1, dk⟩
          · cases ej
        · rename_i k; exact absurd rfl k
      · rw [List.getElem?_set_ne (Ne.symm ji)] at ej
        obtain ⟨w', f1, f2⟩ := rep.slots j d ej
        refine ⟨w', f1, f2.keep (Ex.new g) (fun _ _ z _ => z) fun b o' ed qb => ?_⟩
        subst ed; subst qb
        have z : b ≠ a := fun z => ji (rep.sep j i o' o a ej e (z ▸ f1) e1)
        rw [upd_ne z]; exact (rep.nown ⟨j, o', ej, f1⟩).2.1
    · have f : ∀ (m : Nat) (o3 : OO), (sl.set i (some (.d (pubO o))))[m]? = some (some (.own o3)) → sl[m]? = some (some (.own o3)) := fun m o3 em => by
        rcases get_set em with ⟨_, z⟩ | ⟨_, z⟩
        · cases z
        · exact z
      exact rep.sep j k o1 o2 b (f _ _ e1') (f _ _ e2') e3 e4
    · rcases get_set e1' with ⟨_, y⟩ | ⟨ne, y⟩
      · cases y
      · exact rep.bor j o1 b y e2' (others b z).1
    · rcases get_set z with ⟨_, y⟩ | ⟨ne, y⟩
      · cases y
      · exact rep.nse j o1 y
    · have z : b ≠ a := fun z => w ⟨i, o, e, z ▸ e1⟩
      rw [upd_ne z]; exact g1
    · rcases get_set z with ⟨_, y⟩ | ⟨ne, y⟩
      · cases y
      · exact ⟨o1, y⟩
  · exact ⟨G, .refl rep⟩
theorem ds_pub {X : Cx} {W : WX} {st : Stmt} {t : TDS} {i : Nat} (h : DS X W st t) : DS X W st (dPub i t) := ps_imp h fun D σ H ⟨G, so, sl, E, rep, q, ok⟩ => by
  obtain ⟨G', p⟩ := rep.pubS i
  exact ⟨G', so, _, E, p.rep, q, ok.step p.s⟩
/-! ### small trees -/
structure Sm (b d w : Nat) (x : D) : Prop where
  f : Fine b x
  d : dep x ≤ d
  w : wt b x ≤ w
structure Sms (b d w : Nat) (xs : List D) : Prop where
  f : Fines b xs
  d : deps xs ≤ d
  w : wts b xs ≤ w
section
variable {b d w d' w' m : Nat} {x : D} {xs ys : List D}
theorem Sm.mono (h : Sm b d w x) (h1 : d ≤ d') (h2 : w ≤ w') : Sm b d' w' x := ⟨h.f, Nat.le_trans h.d h1, Nat.le_trans h.w h2⟩
theorem Sms.mono (h : Sms b d w xs) (h1 : d ≤ d') (h2 : w ≤ w') : Sms b d' w' xs := ⟨h.f, Nat.le_trans h.d h1, Nat.le_trans h.w h2⟩
theorem sms_nil : Sms b 0 0 [] := ⟨by simp [Fines], by simp [deps], by simp [wts]⟩
theorem sms_cons (h : Sm b d w x) (t : Sms b d' w' xs) : Sms b (max d d') (w + 2 + w') (x :: xs) := ⟨fcons h.f t.f, by rw [deps]; have := h.d; have := t.d; omega, by rw [wts]; have := h.w; have := t.w; omega⟩
theorem sms_app (h : Sms b d w xs) (t : Sms b d' w' ys) : Sms b (max d d') (w + w') (xs ++ ys) := by
  induction xs generalizing w with
  | nil => exact t.mono (by omega) (by omega)
  | cons x r ih =>
    have f := h.f; have hd := h.d; have hw := h.w
    rw [Fines] at f; rw [deps] at hd; rw [wts] at hw
    have z := ih (w := wts b r) ⟨f.2, by omega, Nat.le_refl _⟩
    refine ⟨fcons f.1 z.f, ?_, ?_⟩
    · show deps (x :: (r ++ ys)) ≤ _
      rw [deps]; have := z.d; omega
    · show wts b (x :: (r ++ ys)) ≤ _
      rw [wts]; have := z.w; omega
theorem sms_all (h : ∀ x ∈ xs, Sm b d w x) (hl : xs.length ≤ m) : Sms b d (m * (w + 2)) xs := by
  induction xs generalizing m with
  | nil => exact sms_nil.mono (by omega) (by omega)
  | cons x r ih =>
    obtain ⟨k, rfl⟩ : ∃ k, m = k + 1 := ⟨m - 1, by simp at hl; omega⟩
    have z := ih (m := k) (fun y hy => h y (List.mem_cons_of_mem _ hy)) (by simpa using hl)
    have z1 := sms_cons (h x (List.mem_cons_self ..)) z
    refine z1.mono (by omega) ?_
    rw [Nat.succ_mul]; omega
theorem sm_tup (h : Sms b d w xs) : Sm b (d + 1) (w + 3) (.tup xs) := ⟨ftup h.f, by rw [dep]; have := h.d; omega, by rw [wt]; have := h.w; omega⟩
theorem sm_lst (h : Sms b d w xs) : Sm b (d + 1) (w + 3) (.lst xs) := ⟨flst h.f, by rw [dep]; have := h.d; omega, by rw [wt]; have := h.w; omega⟩
theorem sm_int {i : Int} (h : i.natAbs < 10 ^ b) : Sm b 0 (b + 1) (.int i) := ⟨fint h, Nat.le_refl _, by rw [wt]; omega⟩
theorem sm_bl {i : Bool} : Sm b 0 5 (.bl i) := ⟨fbl, Nat.le_refl _, Nat.le_refl _⟩
theorem sm_non : Sm b 0 5 .non := ⟨fnon, Nat.le_refl _, Nat.le_refl _⟩
theorem sm_str {z : Str} (h : ∀ c ∈ z.cps.toList, c < 0x110000) (hl : z.length ≤ m) : Sm b 0 (10 * m + 2) (.str z) := ⟨fstr h, Nat.le_refl _, by rw [wt]; omega⟩
theorem sm_rat {q : Rat} (h1 : q.num.natAbs < 10 ^ b) (h2 : q.den < 10 ^ b) : Sm b 1 (b + b + 9) (rD q) :=
  (sm_tup (sms_cons (sm_int h1) (sms_cons (sm_int (i := (q.den : Int)) (by omega)) sms_nil))).mono (by omega) (by omega)
theorem Sm.sh (h : Sm b d w x) (hd : d ≤ 60 := by decide) (hb : 0 < b := by decide) (hb2 : b ≤ 500 := by decide) : ∃ p, x.py = some p ∧ SeqAt.shaped p = true := fine_sh h.f (Nat.le_trans h.d hd) hb hb2
theorem same_lstS {Q : DV → Prop} {E : XE'} {ds es : List D} (he : ds = es) (h : Sms b d w es) (q : Q (.d (.bl true))) (h1 : d ≤ 60 := by decide) (h2 : w ≤ 16000000 := by decide) (hb : 0 < b := by decide) (hb2 : b ≤ 500 := by decide) : spSame [.d (.lst ds), .d (.lst es)] Q E := same_lst b he h.f q (Nat.le_trans h.d h1) (Nat.le_trans h.w h2) hb hb2
theorem same_tupS {Q : DV → Prop} {E : XE'} {ds es : List D} (he : ds = es) (h : Sms b d w es) (q : Q (.d (.bl true))) (h1 : d ≤ 60 := by decide) (h2 : w ≤ 16000000 := by decide) (hb : 0 < b := by decide) (hb2 : b ≤ 500 := by decide) : spSame [.d (.tup ds), .d (.tup es)] Q E := same_tup b he h.f q (Nat.le_trans h.d h1) (Nat.le_trans h.w h2) hb hb2
end
theorem parO_cut {ta tb : TD} {u : TDS} {E : EndsD} {sl s' : DSt} {i j : Nat} (R : DV → DV → Prop) (h : ∀ Q : DV → DV → DSt → Prop, (∀ x y, R x y → Q x y s') → ta sl (fun x s1 => tb s1 (fun y s2 => Q x y s2) E.xc) E.xc) (q : ∀ x y, R x y → keepR x ∧ keepR y ∧ u E ((s'.set i (some x)).set j (some y))) : dSeq (dParO i j ta tb) u E sl := h (fun x y s2 => keepR x ∧ keepR y ∧ u E ((s2.set i (some x)).set j (some y))) q
theorem app_cut {te : TD} {u : TDS} {E : EndsD} {sl s' : DSt} {i : Nat} (ds : List D) (d : D) (h : ∀ Q : DV → DSt → Prop, Q (.d d) s' → te sl Q E.xc) (q : u E (s'.set i (some (.own (.lst (ds ++ [d])))))) (hl : ds.length < szl) (e : sl[i]? = some (some (.own (.lst ds))) := by rfl) (e2 : s'[i]? = some (some (.own (.lst ds))) := by rfl) : dSeq (dAppend te i) u E sl := by
  refine ⟨⟨ds, e⟩, h _ ?_⟩
  show (match s'[i]?, DV.d d with
    | some (some (.own (.lst ds))), .d d => ds.length < szl ∧ u E (s'.set i (some (.own (.lst (ds ++ [d])))))
    | _, _ => False)
  rw [e2]
  exact ⟨hl, q⟩
theorem appT_cut {to te : TD} {u : TDS} {E : EndsD} {sl s1 s' : DSt} (h : ∀ Q : DV → DSt → Prop, (∀ ds : List D, ds.length < szl → Q (.own (.lst ds)) s1) → to sl Q E.xc) (h2 : ∀ Q : DV → DSt → Prop, (∀ d : D, Q (.d d) s') → te s1 Q E.xc) (q : u E s') : dSeq (dAppT to te) u E sl :=
  h _ fun ds hl => h2 _ fun d => ⟨hl, q⟩
theorem appT_end {to te : TD} {E : EndsD} {sl s1 s' : DSt} (h : ∀ Q : DV → DSt → Prop, (∀ ds : List D, ds.length < szl → Q (.own (.lst ds)) s1) → to sl Q E.xc) (h2 : ∀ Q : DV → DSt → Prop, (∀ d : D, Q (.d d) s') → te s1 Q E.xc) (q : E.nx s') : dAppT to te E sl :=
  h _ fun ds hl => h2 _ fun d => ⟨hl, q⟩
/-! ### signs in bounds -/
def okS (z : Str) : Prop := ∀ c ∈ z.cps.toList, c < 0x110000
theorem ok_app {x y : Str} (h : okS x) (h2 : okS y) : okS (x ++ y) := by
  intro c hc
  have e : (x ++ y).cps.toList = x.cps.toList ++ y.cps.toList := by
    show (x.cps ++ y.cps).toList = _
    rw [Array.toList_append]
  rw [e] at hc
  rcases List.mem_append.mp hc with hc | hc
  · exact h c hc
  · exact h2 c hc
theorem ok_of (s : String) : okS (Str.ofString s) := by
  intro c hc
  rw [Str.ofString_eq_toList] at hc
  have hc' : c ∈ s.toList.map Char.toNat := hc
  obtain ⟨ch, _, rfl⟩ := List.mem_map.mp hc'
  have := ch.valid
  have h2 : ch.toNat.isValidChar := this
  rcases h2 with h2 | h2 <;> omega
theorem cut_m1 {α : Type} (xs : List α) : cut xs none (some (-1)) = xs.take (xs.length - 1) := by
  unfold cut
  have e1 : HT.sIx xs.length 0 none = 0 := rfl
  have e2 : HT.sIx xs.length xs.length (some (-1)) = xs.length - 1 := by
    unfold HT.sIx
    dsimp only
    split <;> omega
  rw [e1, e2]; simp
theorem eqD_lst (a b : List D) : eqD (.lst a) (.lst b) = eqDs a b := by rw [eqD]
theorem eqD_tup (a b : List D) : eqD (.tup a) (.tup b) = eqDs a b := by rw [eqD]
theorem eqDs_nil (a : List D) : eqDs a [] = a.isEmpty := by
  cases a with
  | nil => rw [eqDs]; rfl
  | cons x r => exact eqDs_ne (by simp)
theorem pls_bools (bs : List Bool) : Pls (bs.map D.bl) := Pls.of fun d hd => by obtain ⟨b, _, rfl⟩ := List.mem_map.mp hd; exact pl_bl
theorem sms_bools {b : Nat} (bs : List Bool) : Sms b 0 (bs.length * 7) (bs.map D.bl) := sms_all (fun d hd => by obtain ⟨b, _, rfl⟩ := List.mem_map.mp hd; exact sm_bl) (by rw [List.length_map]; exact Nat.le_refl _)
theorem no_seeL {args : List DV} (h : ∀ x ∈ args, Lent x ∨ x = .src) (i : Nat) (o : OO) : args[i]? ≠ some (.see o) := fun e => by
  rcases h _ (List.mem_of_getElem? e) with (⟨d, y⟩ | ⟨ds, y⟩) | y <;> cases y
theorem FnG.never {P : Program} {w : World} {K : PySem.W.Frag} {mg : Str → Option Value} {base : Heap} {k : Nat} {f : Addr} {fd : FuncData} {ps : List Str} : FnG P w K mg base k f fd ps (fun _ _ _ => False) :=
  ⟨fun _ _ _ h => h.elim, fun _ _ _ _ _ _ _ _ _ _ _ _ _ _ ⟨_, _, _, _, _, _, _, q, _⟩ => q.elim⟩
theorem Lent.dat {x : DV} (h : Lent x) : ∃ d, x.dat = some d := by
  rcases h with ⟨d, rfl⟩ | ⟨ds, rfl⟩
  · exact ⟨d, rfl⟩
  · exact ⟨_, rfl⟩
theorem Lent.items {x : DV} {d : D} {ds : List D} (h : Lent x) (e : x.dat = some d) (i : itemsD d = some ds) : itemsV x = some ds := by
  rcases h with ⟨d', rfl⟩ | ⟨es, rfl⟩
  · cases e; exact i
  · cases e; exact i
theorem Lent.atom {x : DV} {d : D} (h : Lent x) (e : x.dat = some d) (i : itemsD d = none) : x = .d d := by
  rcases h with ⟨d', rfl⟩ | ⟨es, rfl⟩
  · cases e; rfl
  · cases e; cases i
mutual
theorem fine_pl {b : Nat} : ∀ d : D, Fine b d → Pl d
  | .lst ds, h => pl_lst (fines_pl ds (by simpa only [Fine] using h))
  | .tup ds, h => pl_tup (fines_pl ds (by simpa only [Fine] using h))
  | .non, _ => pl_non
  | .bl _, _ => pl_bl
  | .int _, _ => pl_int
  | .str _, _ => pl_str
  | .ins _ _, h => by simp [Fine] at h
  | .dk _, h => by simp [Fine] at h
  | .dt _, h => by simp [Fine] at h
  | .any, h => by simp [Fine] at h
  | .raw _, h => by simp [Fine] at h
theorem fines_pl {b : Nat} : ∀ ds : List D, Fines b ds → Pls ds
  | [], _ => pls_nil
  | d :: r, h => by rw [Fines] at h; exact pls_cons (fine_pl d h.1) (fines_pl r h.2)
end
theorem Sm.pl {b d w : Nat} {x : D} (h : Sm b d w x) : Pl x := fine_pl x h.f
theorem Sms.pl {b d w : Nat} {x : List D} (h : Sms b d w x) : Pls x := fines_pl x h.f
theorem Sms.hd {b d w : Nat} {x : D} {xs : List D} (h : Sms b d w (x :: xs)) : Sm b d w x := by
  have f := h.f; have hd := h.d; have hw := h.w
  rw [Fines] at f; rw [deps] at hd; rw [wts] at hw
  exact ⟨f.1, by omega, by omega⟩
theorem Sms.tl {b d w : Nat} {x : D} {xs : List D} (h : Sms b d w (x :: xs)) : Sms b d w xs := by
  have f := h.f; have hd := h.d; have hw := h.w
  rw [Fines] at f; rw [deps] at hd; rw [wts] at hw
  exact ⟨f.2, by omega, by omega⟩
theorem Sms.mem {b d w : Nat} {x : D} : ∀ {xs : List D}, Sms b d w xs → x ∈ xs → Sm b d w x
  | _ :: _, h, .head _ => h.hd
  | _ :: _, h, .tail _ m => Sms.mem h.tl m
theorem Sms.len {b d w : Nat} : ∀ {xs : List D}, Sms b d w xs → xs.length ≤ w := by
  intro xs h
  have hw := h.w
  have : ∀ ys : List D, ys.length ≤ wts b ys := by
    intro ys
    induction ys with
    | nil => simp
    | cons y r ih => rw [wts, List.length_cons]; omega
  have := this xs
  omega
theorem Sm.unlst {b d w : Nat} {xs : List D} (h : Sm b (d + 1) w (.lst xs)) : Sms b d w xs := by
  have f := h.f; have hd := h.d; have hw := h.w
  rw [dep] at hd; rw [wt] at hw
  exact ⟨by simpa only [Fine] using f, by omega, by omega⟩
theorem Sm.untup {b d w : Nat} {xs : List D} (h : Sm b (d + 1) w (.tup xs)) : Sms b d w xs := by
  have f := h.f; have hd := h.d; have hw := h.w
  rw [dep] at hd; rw [wt] at hw
  exact ⟨by simpa only [Fine] using f, by omega, by omega⟩
theorem Sm.lst0 {b w : Nat} {xs : List D} (h : Sm b 0 w (.lst xs)) : False := by have := h.d; rw [dep] at this; omega
theorem Sm.tup0 {b w : Nat} {xs : List D} (h : Sm b 0 w (.tup xs)) : False := by have := h.d; rw [dep] at this; omega
theorem Sm.items {b d w : Nat} {x : D} {xs : List D} (h : Sm b (d + 1) w x) (e : itemsD x = some xs) : Sms b d w xs := by
  cases x with
  | lst es => cases e; exact h.unlst
  | tup es => cases e; exact h.untup
  | _ => cases e
theorem Lent.pub {x : DV} (h : Lent x) : pubV x = x := by
  rcases h with ⟨d, rfl⟩ | ⟨es, rfl⟩ <;> rfl
def asD (d : D) : D := match itemsD d with
  | some ds => .lst ds
  | none => d
theorem asD_some {d : D} {ds : List D} (e : itemsD d = some ds) : asD d = .lst ds := by unfold asD; rw [e]
theorem asD_none {d : D} (e : itemsD d = none) : asD d = d := by unfold asD; rw [e]
theorem fld_cut {K : PySem.W.Frag} {te : TD} {u : TDS} {E : EndsD} {sl s' : DSt} {i : Nat} {f : Str} {x C : Addr} {fs : List (Str × D)} (d : D) (c : Cls K C) (n : NoAttr K C f) (h : ∀ Q : DV → DSt → Prop, (∀ v, pubV v = .d d → Q v s') → te sl Q E.xc) (q : u E (s'.set i (some (.own (.ins x C (putD f d fs)))))) (hl : fs.length < 1000 := by exact Nat.le_of_ble_eq_true rfl) (e : s'[i]? = some (some (.own (.ins x C fs))) := by rfl) : dSeq (dFldSet K te i f) u E sl := by
  refine h _ fun v pv => ?_
  show (match s'[i]?, pubV v with
    | some (some (.own (.ins x C fs))), .d d => Cls K C ∧ NoAttr K C f ∧ fs.length < 1000 ∧ u E (s'.set i (some (.own (.ins x C (putD f d fs)))))
    | _, _ => False)
  rw [e, pv]
  exact ⟨c, n, hl, q⟩
theorem fld_end {K : PySem.W.Frag} {te : TD} {E : EndsD} {sl s' : DSt} {i : Nat} {f : Str} {x C : Addr} {fs : List (Str × D)} (d : D) (c : Cls K C) (n : NoAttr K C f) (h : ∀ Q : DV → DSt → Prop, (∀ v, pubV v = .d d → Q v s') → te sl Q E.xc) (q : E.nx (s'.set i (some (.own (.ins x C (putD f d fs)))))) (hl : fs.length < 1000 := by exact Nat.le_of_ble_eq_true rfl) (e : s'[i]? = some (some (.own (.ins x C fs))) := by rfl) : dFldSet K te i f E sl := by
  refine h _ fun v pv => ?_
  show (match s'[i]?, pubV v with
    | some (some (.own (.ins x C fs))), .d d => Cls K C ∧ NoAttr K C f ∧ fs.length < 1000 ∧ E.nx (s'.set i (some (.own (.ins x C (putD f d fs)))))
    | _, _ => False)
  rw [e, pv]
  exact ⟨c, n, hl, q⟩
end DL

set_option Elab.async false
set_option linter.all false
set_option maxRecDepth 100000
set_option autoImplicit false
set_option maxHeartbeats 2000000
/-! dicts with int and text keys -/
namespace DL
open PySem PySem.Spec PyProof.Rows L2
def valD {κ : Type} [DecidableEq κ] (kvs : List (κ × D)) (k : κ) : Option D := (kvs.find? fun kv => decide (kv.1 = k)).map (·.2)
def keyOf : D → Option Key
  | .int i => some (.inl i)
  | .str z => some (.inr z)
  | _ => none
def keyD : Key → D
  | .inl i => .int i
  | .inr z => .str z
theorem valD_nil {κ : Type} [DecidableEq κ] {k : κ} : valD ([] : List (κ × D)) k = none := rfl
theorem valD_pos {κ : Type} [DecidableEq κ] {p : κ × D} {r : List (κ × D)} {k : κ} (e : p.1 = k) : valD (p :: r) k = some p.2 := by simp [valD, List.find?_cons, e]
theorem valD_neg {κ : Type} [DecidableEq κ] {p : κ × D} {r : List (κ × D)} {k : κ} (e : ¬ p.1 = k) : valD (p :: r) k = valD r k := by simp [valD, List.find?_cons, e]
section
variable {K : PySem.W.Frag} {G H : Hp} {so : So} {v : V} {dv : DV}
theorem FAll.valS {κ : Type} [DecidableEq κ] {k : κ} : ∀ {vs : List (κ × V)} {kvs : List (κ × D)} {d : D}, FAll K G vs kvs → valD kvs k = some d → ∃ v, valV vs k = some v ∧ DOk K G v d
  | _, _, _, .nil, e => by cases e
  | _, _, d, .cons (x := x) h t, e => by
    by_cases z : x = k
    · rw [valD_pos z] at e; cases e; exact ⟨_, valV_pos z, h⟩
    · rw [valD_neg z] at e
      obtain ⟨v, e1, e2⟩ := FAll.valS t e
      exact ⟨v, by rw [valV_neg z]; exact e1, e2⟩
theorem FAll.valN {κ : Type} [DecidableEq κ] {k : κ} : ∀ {vs : List (κ × V)} {kvs : List (κ × D)}, FAll K G vs kvs → valD kvs k = none → valV vs k = none
  | _, _, .nil, _ => rfl
  | _, _, .cons (x := x) h t, e => by
    by_cases z : x = k
    · rw [valD_pos z] at e; cases e
    · rw [valD_neg z] at e
      rw [valV_neg z]; exact FAll.valN t e
theorem FAll.keys {κ : Type} : ∀ {vs : List (κ × V)} {kvs : List (κ × D)}, FAll K G vs kvs → vs.map (·.1) = kvs.map (·.1)
  | _, _, .nil => rfl
  | _, _, .cons _ t => by rw [List.map_cons, List.map_cons, FAll.keys t]
theorem FAll.len {κ : Type} {vs : List (κ × V)} {kvs : List (κ × D)} (h : FAll K G vs kvs) : vs.length = kvs.length := by
  have := congrArg List.length h.keys
  simpa using this
theorem key_ok {d : D} {k : Key} (w : DOk K G v d) (e : keyOf d = some k) : v = kV k := by
  cases w <;> cases e <;> rfl
theorem keyD_ok (k : Key) : DOk K G (kV k) (keyD k) := by
  cases k with
  | inl i => exact .int i
  | inr z => exact .str z
def DV.dkv : DV → Option (List (Key × D))
  | .d (.dk k) => some k
  | .own (.dk k) => some k
  | .bor (.dk k) => some k
  | .see (.dk k) => some k
  | _ => none
theorem VOk.dkr {kvs : List (Key × D)} (h : HRep K G so H) (w : VOk K G so H v dv) (e : dv.dkv = some kvs) : ∃ a vs, v = .ref a ∧ Rd H a (.dK vs) ∧ FAll K G vs kvs := by
  unfold DV.dkv at e
  split at e
  · cases e
    cases w with
    | dk g f => exact ⟨_, _, rfl, .inr ⟨_, h.ex _ _ g⟩, f⟩
  · cases e; obtain ⟨a, rfl, _, _, vs, q, r⟩ := w; exact ⟨a, vs, rfl, .inl q, r⟩
  · cases e; obtain ⟨a, rfl, _, o, vs, q, r⟩ := w; exact ⟨a, vs, rfl, .inr ⟨o, q⟩, r⟩
  · cases e; obtain ⟨a, rfl, _, vs, q, r⟩ := w; exact ⟨a, vs, rfl, .inl q, r⟩
  · cases e
end
/-! ### d[k], k in d, len(d), sorted(d) -/
@[irreducible] def dgetR (x y : DV) (Q : DV → Prop) : Prop := match x.dkv, y with
  | some kvs, .d k => (match keyOf k with
    | some key => (match valD kvs key with
      | some d => Q (.d d)
      | none => False)
    | none => False)
  | _, _ => False
@[irreducible] def dinR (neg : Bool) (x y : DV) (Q : DV → Prop) : Prop := match x, y.dkv with
  | .d k, some kvs => (match keyOf k with
    | some key => Q (.d (.bl (if neg then !(valD kvs key).isSome else (valD kvs key).isSome)))
    | none => False)
  | _, _ => False
section
variable {X : Cx} {W : WX} {a b : Expr} {ta tb : TD} {pos : Pos}
theorem de_dget (hu : X.A.units + 64 < cLine) (ha : DE X W a ta) (hb : DE X W b tb) (hs : NoSl b := by exact fun _ _ => rfl) : DE X W (.Subscript a b pos) (dOp dgetR ta tb) := by
  refine pe_imp (pe_dget (by omega) ha hb hs) fun σ H R ⟨G, so, sl, Q, E, rep, q, hq, hx⟩ => ?_
  refine ⟨G, so, sl, _, E, rep, q, fun x H1 G1 dx s1 p1 h1 => ?_, hx⟩
  refine ⟨G1, so, s1, _, E, p1.rep, h1, fun y H2 G2 dy s2 p2 h2 => ?_, hx.step p1.toPost⟩
  unfold dgetR at h2
  split at h2
  · rename_i kvs k e
    split at h2
    · rename_i key ek
      split at h2
      · rename_i d ed
        obtain ⟨c, vs, rfl, rd, fa⟩ := VOk.dkr p2.rep.h (p1.over p2.toPost) e
        obtain ⟨v, e1, e2⟩ := fa.valS ed
        have ey := key_ok (show DOk X.K G2 y k from p2.val) ek
        exact ⟨c, v, rfl, .inl ⟨vs, key, rd, ey, e1.symm⟩, hq v H2 G2 _ s2 ((p1.toPost.trans p2.toPost).thenV (.dat p2.rep.h e2)) h2⟩
      · exact h2.elim
    · exact h2.elim
  · exact h2.elim
theorem de_din (hu : X.A.units + 64 < cLine) (ha : DE X W a ta) (hb : DE X W b tb) (hm : behindInMarks .In b = false := by rfl) : DE X W (.Compare a [.In] [b] pos) (dOp (dinR false) ta tb) := by
  refine pe_imp (pe_cmp (pc_din (by omega) ha hb) hm) fun σ H R ⟨G, so, sl, Q, E, rep, q, hq, hx⟩ => ?_
  refine ⟨G, so, sl, _, E, rep, q, fun x H1 G1 dx s1 p1 h1 => ?_, hx⟩
  refine ⟨G1, so, s1, _, E, p1.rep, h1, fun y H2 G2 dy s2 p2 h2 => ?_, hx.step p1.toPost⟩
  unfold dinR at h2
  split at h2
  · rename_i k kvs e
    split at h2
    · rename_i key ek
      obtain ⟨c, vs, rfl, rd, fa⟩ := VOk.dkr p2.rep.h p2.val e
      have ey := key_ok (show DOk X.K G2 x k from p1.over p2.toPost) ek
      have e1 : (valV vs key).isSome = (valD kvs key).isSome := by
        cases z : valD kvs key with
        | none => rw [fa.valN z]; rfl
        | some d => obtain ⟨v, e1, _⟩ := fa.valS z; rw [e1]; rfl
      refine ⟨c, valV vs key, rfl, .inl ⟨vs, key, rd, ey, rfl⟩, ?_⟩
      rw [e1]
      exact hq _ H2 G2 _ s2 ((p1.toPost.trans p2.toPost).thenV (.dat p2.rep.h (.bl _))) h2
    · exact h2.elim
  · exact h2.elim
theorem de_dnotin (hu : X.A.units + 64 < cLine) (ha : DE X W a ta) (hb : DE X W b tb) (hm : behindInMarks .NotIn b = false := by rfl) : DE X W (.Compare a [.NotIn] [b] pos) (dOp (dinR true) ta tb) := by
  refine pe_imp (pe_cmp (pc_dnotin (by omega) ha hb) hm) fun σ H R ⟨G, so, sl, Q, E, rep, q, hq, hx⟩ => ?_
  refine ⟨G, so, sl, _, E, rep, q, fun x H1 G1 dx s1 p1 h1 => ?_, hx⟩
  refine ⟨G1, so, s1, _, E, p1.rep, h1, fun y H2 G2 dy s2 p2 h2 => ?_, hx.step p1.toPost⟩
  unfold dinR at h2
  split at h2
  · rename_i k kvs e
    split at h2
    · rename_i key ek
      obtain ⟨c, vs, rfl, rd, fa⟩ := VOk.dkr p2.rep.h p2.val e
      have ey := key_ok (show DOk X.K G2 x k from p1.over p2.toPost) ek
      have e1 : (valV vs key).isSome = (valD kvs key).isSome := by
        cases z : valD kvs key with
        | none => rw [fa.valN z]; rfl
        | some d => obtain ⟨v, e1, _⟩ := fa.valS z; rw [e1]; rfl
      refine ⟨c, valV vs key, rfl, .inl ⟨vs, key, rd, ey, rfl⟩, ?_⟩
      rw [e1]
      exact hq _ H2 G2 _ s2 ((p1.toPost.trans p2.toPost).thenV (.dat p2.rep.h (.bl _))) h2
    · exact h2.elim
  · exact h2.elim
theorem call_lenDk {X : Cx} : CallR X (.builtin "len") (fun xs H Q => ∃ a kvs, xs = [V.ref a] ∧ Rd H a (.dK kvs) ∧ Q (.int kvs.length) H) := by
  intro pins s σ H xs us Q I r h
  obtain ⟨a, kvs, rfl, rd, q⟩ := h
  obtain rfl := Vals.ref1 r
  exact d_len I rd fun t s' I' => ⟨.int _, H, I', ⟨t, rfl⟩, q⟩
end
section
variable {K : PySem.W.Frag}
@[irreducible] def lenDR : List DV → (DV → Prop) → Prop
  | [v], Q => (match v.dkv with
    | some kvs => Q (.d (.int kvs.length))
    | none => False)
  | _, _ => False
theorem sem_lenDk : CallSem K (fun xs H Q => ∃ a kvs, xs = [V.ref a] ∧ Rd H a (.dK kvs) ∧ Q (.int kvs.length) H) lenDR := by
  intro G so H xs dxs Q R h w q k
  unfold lenDR at q
  split at q
  · obtain ⟨v, rfl, w1, _⟩ := w.v1
    split at q
    · rename_i kvs e
      obtain ⟨c, vs, rfl, rd, fa⟩ := VOk.dkr h w1 e
      refine ⟨c, vs, rfl, rd, k _ H G _ (.dat h (.int _)) ?_⟩
      rw [fa.len]; exact q
    · exact q.elim
  · exact q.elim
theorem DAll.strs {G : Hp} : ∀ (ys : List Str), DAll K G (ys.map V.str) (ys.map D.str)
  | [] => .nil
  | y :: r => .cons (.str y) (DAll.strs r)
/-- sorted(d), the keys texts -/
@[irreducible] def sortDR : List DV → (DV → Prop) → Prop
  | [v], Q => (match v.dkv with
    | some kvs => ∃ ks : List Str, kvs.map (·.1) = ks.map Sum.inr ∧ ks.length < 64 ∧ ∀ ys : List Str, ys.Perm ks → sortedS ys = true → Q (.own (.lst (ys.map .str)))
    | none => False)
  | _, _ => False
theorem sem_sortD : CallSem K (fun xs H Q => ∃ (a : Addr) (kvs : List (Key × V)) (ks : List Str), xs = [.ref a] ∧ Rd H a (.dK kvs) ∧ kvs.map (·.1) = ks.map Sum.inr ∧ ks.length < 64 ∧
    ∀ ys p, ys.Perm ks → sortedS ys = true → H p = none → Q (.ref p) (upd H p (.lst (ys.map V.str)))) sortDR := by
  intro G so H xs dxs Q R h w q k
  unfold sortDR at q
  split at q
  · obtain ⟨v, rfl, w1, _⟩ := w.v1
    split at q
    · rename_i kvs e
      obtain ⟨c, vs, rfl, rd, fa⟩ := VOk.dkr h w1 e
      obtain ⟨ks, e1, e2, q⟩ := q
      exact ⟨c, vs, ks, rfl, rd, by rw [fa.keys]; exact e1, e2, fun ys p hp hs n => k _ _ G _ (.list h n (DAll.strs ys)) (q ys hp hs)⟩
    · exact q.elim
  · exact q.elim
/-- sorted(texts) -/
@[irreducible] def sortSR : List DV → (DV → Prop) → Prop
  | [v], Q => (match v.items with
    | some ds => (match strsD ds with
      | some ks => ks.length < 64 ∧ ∀ ys : List Str, ys.Perm ks → sortedS ys = true → Q (.own (.lst (ys.map .str)))
      | none => False)
    | none => False)
  | _, _ => False
theorem sem_sortS : CallSem K (rSortedS K) sortSR := by
  intro G so H xs dxs Q R h w q k
  unfold sortSR at q
  split at q
  · obtain ⟨v, rfl, w1, _⟩ := w.v1
    split at q
    · rename_i ds e
      obtain ⟨c, vs, rfl, g1, a1⟩ := VOk.list h w1 e
      split at q
      · rename_i ks e2
        refine ⟨c, ks, rfl, by rw [← strs_ok a1 e2]; exact SqL.of g1, q.1, fun ys p hp hs n => k _ _ G _ (.list h n (DAll.strs ys)) (q.2 ys hp hs)⟩
      · exact q.elim
    · exact q.elim
  · exact q.elim
/-- any([..]) -/
@[irreducible] def anyR : List DV → (DV → Prop) → Prop
  | [v], Q => (match v.items with
    | some ds => (match bools ds with
      | some bs => Q (.d (.bl (bs.any id)))
      | none => False)
    | none => False)
  | _, _ => False
theorem sem_any : CallSem K (rAny K) anyR := by
  intro G so H xs dxs Q R h w q k
  unfold anyR at q
  split at q
  · obtain ⟨v, rfl, w1, _⟩ := w.v1
    split at q
    · rename_i e
      obtain ⟨a, vs, rfl, g1, a1⟩ := VOk.list h w1 e
      split at q
      · rename_i bs eb
        exact ⟨a, bs, rfl, by rw [← bools_ok a1 eb]; exact SqL.of g1, k _ H G _ (.dat h (.bl _)) q⟩
      · exact q.elim
    · exact q.elim
  · exact q.elim
/-- x is None -/
def isNonD : D → Option Bool
  | .non => some true
  | .any => none
  | .raw _ => none
  | _ => some false
@[irreducible] def isNR (neg : Bool) : DV → DV → (DV → Prop) → Prop
  | x, .d .non, Q => (match x.dat with
    | some d => (match isNonD d with
      | some b => Q (.d (.bl (if neg then !b else b)))
      | none => False)
    | none => False)
  | _, _, _ => False
theorem isN_ok {G H : Hp} {so : So} {v : V} {dv : DV} {d : D} {b : Bool} (w : VOk K G so H v dv) (e : dv.dat = some d) (q : isNonD d = some b) : decide (v = .non) = b := by
  have ow : ∀ {o : OO}, isNonD (pubO o) = some b → b = false := fun {o} z => by cases o <;> cases z <;> rfl
  cases dv with
  | src => cases e
  | own o => cases e; obtain ⟨a, rfl, _⟩ := w; rw [ow q]; rfl
  | bor o => cases e; obtain ⟨a, rfl, _⟩ := w; rw [ow q]; rfl
  | see o => cases e; obtain ⟨a, rfl, _⟩ := w; rw [ow q]; rfl
  | d x =>
    cases e
    cases w <;> cases q <;> rfl
theorem sem_isN : OpSem K (fun x y H Q => y = .non ∧ Q (.bl (decide (x = .non))) H) (isNR false) := by
  intro G so H x y dx dy Q R h wx wy q k
  unfold isNR at q
  split at q
  · cases wy
    split at q
    · rename_i d e
      split at q
      · rename_i b eb
        refine ⟨rfl, ?_⟩
        rw [isN_ok wx e eb]
        exact k _ H G _ (.dat h (.bl _)) q
      · exact q.elim
    · exact q.elim
  · exact q.elim
end
end DL
namespace DL
open PySem PySem.Spec PyProof.Rows L2
section
variable {K : PySem.W.Frag}
theorem sem_notN : OpSem K (fun x y H Q => y = .non ∧ Q (.bl (!decide (x = .non))) H) (isNR true) := by
  intro G so H x y dx dy Q R h wx wy q k
  unfold isNR at q
  split at q
  · cases wy
    split at q
    · rename_i d e
      split at q
      · rename_i b eb
        refine ⟨rfl, ?_⟩
        rw [isN_ok wx e eb]
        exact k _ H G _ (.dat h (.bl _)) q
      · exact q.elim
    · exact q.elim
  · exact q.elim
theorem l_isN {n b : Bool} {x : DV} {d : D} {Q : DV → Prop} (e : x.dat = some d) (h : isNonD d = some b) (q : Q (.d (.bl (if n then !b else b)))) : isNR n x (.d .non) Q := by
  unfold isNR
  dsimp only
  rw [e]
  dsimp only
  rw [h]; exact q
theorem l_dget {x : DV} {kvs : List (Key × D)} {k : D} {key : Key} {d : D} {Q : DV → Prop} (h1 : x.dkv = some kvs) (h2 : keyOf k = some key) (h3 : valD kvs key = some d) (q : Q (.d d)) : dgetR x (.d k) Q := by
  unfold dgetR
  rw [h1]
  dsimp only
  rw [h2]
  dsimp only
  rw [h3]; exact q
theorem l_din {n : Bool} {x : DV} {kvs : List (Key × D)} {k : D} {key : Key} {Q : DV → Prop} (h1 : x.dkv = some kvs) (h2 : keyOf k = some key) (q : Q (.d (.bl (if n then !(valD kvs key).isSome else (valD kvs key).isSome)))) : dinR n (.d k) x Q := by
  unfold dinR
  rw [h1]
  dsimp only
  rw [h2]; exact q
theorem l_lenD2 {x : DV} {kvs : List (Key × D)} {Q : DV → Prop} (h1 : x.dkv = some kvs) (q : Q (.d (.int kvs.length))) : lenDR [x] Q := by
  unfold lenDR
  dsimp only
  rw [h1]; exact q
theorem l_sortD {x : DV} {kvs : List (Key × D)} {ks : List Str} {Q : DV → Prop} (h1 : x.dkv = some kvs) (h2 : kvs.map (·.1) = ks.map Sum.inr) (h3 : ks.length < 64) (q : ∀ ys : List Str, ys.Perm ks → sortedS ys = true → Q (.own (.lst (ys.map .str)))) : sortDR [x] Q := by
  unfold sortDR
  dsimp only
  rw [h1]; exact ⟨ks, h2, h3, q⟩
theorem l_sortS {x : DV} {ds : List D} {ks : List Str} {Q : DV → Prop} (h1 : x.items = some ds) (h2 : strsD ds = some ks) (h3 : ks.length < 64) (q : ∀ ys : List Str, ys.Perm ks → sortedS ys = true → Q (.own (.lst (ys.map .str)))) : sortSR [x] Q := by
  unfold sortSR
  dsimp only
  rw [h1]
  dsimp only
  rw [h2]; exact ⟨h3, q⟩
theorem l_any {v : DV} {ds : List D} {bs : List Bool} {Q : DV → Prop} (hv : v.items = some ds) (hb : bools ds = some bs) (q : Q (.d (.bl (bs.any id)))) : anyR [v] Q := by
  unfold anyR
  dsimp only
  rw [hv]
  dsimp only
  rw [hb]; exact q
end
/-! ### {} and d[k] = v -/
def putKD {κ : Type} [DecidableEq κ] (kvs : List (κ × D)) (k : κ) (d : D) : List (κ × D) := if (kvs.any fun kv => decide (kv.1 = k)) = true then kvs.map fun kv => if kv.1 = k then (kv.1, d) else kv else kvs ++ [(k, d)]
end DL

set_option Elab.async false
set_option linter.all false
set_option maxRecDepth 100000
set_option autoImplicit false
set_option maxHeartbeats 2000000
/-! dicts: stored, walked, handed back -/
namespace DL
open PySem PySem.Spec PyProof.Rows L2
section
variable {K : PySem.W.Frag} {G : Hp}
theorem FAll.any_eq {κ : Type} [DecidableEq κ] (k : κ) : ∀ {vs : List (κ × V)} {kvs : List (κ × D)}, FAll K G vs kvs → (vs.any fun kv => decide (kv.1 = k)) = kvs.any fun kv => decide (kv.1 = k)
  | _, _, .nil => rfl
  | _, _, .cons _ t => by rw [List.any_cons, List.any_cons, FAll.any_eq k t]
theorem FAll.app {κ : Type} : ∀ {vs ws : List (κ × V)} {kvs mvs : List (κ × D)}, FAll K G vs kvs → FAll K G ws mvs → FAll K G (vs ++ ws) (kvs ++ mvs)
  | _, _, _, _, .nil, h => h
  | _, _, _, _, .cons a t, h => .cons a (FAll.app t h)
theorem FAll.repl {κ : Type} [DecidableEq κ] {k : κ} {v : V} {d : D} (w : DOk K G v d) : ∀ {vs : List (κ × V)} {kvs : List (κ × D)}, FAll K G vs kvs → FAll K G (vs.map fun kv => if kv.1 = k then (kv.1, v) else kv) (kvs.map fun kv => if kv.1 = k then (kv.1, d) else kv)
  | _, _, .nil => .nil
  | _, _, .cons (x := x) h t => by
    rw [List.map_cons, List.map_cons]
    by_cases z : x = k
    · rw [if_pos z, if_pos z]; exact .cons w (FAll.repl w t)
    · rw [if_neg z, if_neg z]; exact .cons h (FAll.repl w t)
theorem FAll.putK {κ : Type} [DecidableEq κ] {k : κ} {v : V} {d : D} {vs : List (κ × V)} {kvs : List (κ × D)} (h : FAll K G vs kvs) (w : DOk K G v d) : FAll K G (L2.putK vs k v) (putKD kvs k d) := by
  unfold L2.putK putKD
  rw [h.any_eq k]
  split
  · exact h.repl w
  · exact h.app (.cons w .nil)
end
/-! ### {} -/
def dDNew : TD := fun sl Q _ => Q (.own (.dk [])) sl
section
variable {X : Cx} {W : WX} {pos pos' : Pos} {o k value : Expr} {te tk : TD} {i : Nat}
theorem PostV.dct {K : PySem.W.Frag} {G H : Hp} {so : So} {p : Addr} {vs : List (Key × V)} {kvs : List (Key × D)} (h : HRep K G so H) (n : H p = none) (a : FAll K G vs kvs) : PostV K G so H (.ref p) (upd H p (.dK vs)) G (.own (.dk kvs)) :=
  ⟨Ex.refl G, h.alloc n, fun _ _ e _ => Ex.new n _ _ e, fun _ _ g _ => g, ⟨p, rfl, h.ex.free n, h.there n, vs, upd_same, a⟩, fun b o e q => (by cases q; exact n), fun _ e => (nomatch e)⟩
theorem de_dnew : DE X W (.Dict [] [] pos) dDNew := pe_imp pe_dnewK fun σ H R ⟨G, so, sl, Q, E, rep, q, hq, _⟩ p n =>
  hq _ _ G _ sl ((Post.refl rep).thenV (.dct rep.h n .nil)) q
/-! ### name[k] = value, the dict held alone -/
def dDPut (te tk : TD) (i : Nat) : TDS := fun E sl => te sl (fun y s1 => (∃ kvs, s1[i]? = some (some (.own (.dk kvs)))) ∧ tk s1 (fun z s2 => match s2[i]?, pubV y, z with
  | some (some (.own (.dk kvs))), .d d, .d kd => (match keyOf kd with
    | some key => kvs.length < szl ∧ E.nx (s2.set i (some (.own (.dk (putKD kvs key d)))))
    | none => False)
  | _, _, _ => False) E.xc) E.xc
theorem ds_dput (hu : X.A.units + 64 < cLine) (ho : PE X o (tVar i)) (hk : DE X W k tk) (hv : DE X W value te) (hs : swapsWith value (some (.Subscript o k pos')) pos.line X.env = pure false := by rfl) :
    DS X W (.Assign [.Subscript o k pos'] value pos) (dDPut te tk i) := by
  refine ps_imp (ps_dput (by omega) ho hk hv hs) fun D σ H ⟨G, so, sl, E, rep, q, ok⟩ => ?_
  refine ⟨G, so, sl, _, E.xc, rep, q, fun v H1 G1 dv s1 p1 z => ?_, ok.xc.ex⟩
  obtain ⟨G2, p2⟩ := p1.pub
  obtain ⟨⟨kvs0, e0⟩, z⟩ := z
  obtain ⟨v0, f0, a, rfl, ga, sa, vs0, h0, d0⟩ := p2.rep.slots i _ e0
  refine ⟨.ref a, f0, G2, so, s1, _, E.xc, p2.rep, z, fun y H3 G3 dk s3 p3 z3 => ?_, (ok.step p2.toPost.s).xc.ex⟩
  split at z3
  · rename_i kvs d kd e1 e2
    split at z3
    · rename_i key ek
      obtain ⟨l, z3⟩ := z3
      obtain ⟨v1, f1, b, rfl, gb, sb, vs, h1, h2⟩ := p3.rep.slots i _ e1
      rw [f0] at f1
      cases f1
      have wv : DOk X.K G3 v d := by
        have := p2.over p3.toPost
        rw [e2] at this; exact this
      have ey := key_ok (show DOk X.K G3 y kd from p3.val) ek
      refine ⟨a, _, rfl, .inl ⟨vs, key, h1, ey, by rw [h2.len, ← szl_eq]; exact l, rfl⟩, ?_⟩
      exact ok.nx σ _ G3 _ ((p2.toPost.trans p3.toPost).s.trans (PostS.mut (o' := .dk (putKD kvs key d)) p3.rep e1 f0 ⟨_, upd_same, h2.putK wv⟩)) z3
    · exact z3.elim
  · exact z3.elim
end
/-! ### return name, the dict locked from now on -/
theorem ps_retL {X : Cx} {st : Stmt} {t : TS} (h : PS X st t) : PS X st (fun D σ H => t { D with rt := fun v H' => ∃ d u, H' d = some u ∧ Mut (some u) ∧ ∀ od, D.rt v (upd H' d (.frz od u)) } σ H) := by
  refine ⟨fun pins s σ H D I hw => thn (h.run pins s σ H _ I hw) fun f s1 q => ?_⟩
  cases f with
  | next => exact q
  | brk => exact q
  | cont => exact q
  | ret v =>
    obtain ⟨x, σ', H', I2, r, d, u, hd, mu, q⟩ := q
    obtain ⟨od, I3⟩ := I2.lock hd mu
    exact ⟨x, σ', _, I3, r, q od⟩
theorem pe_retL {X : Cx} {e : Expr} {t : TE} (h : PE X e t) : PE X e (fun σ H Q => t σ H fun v H' => ∃ d u, H' d = some u ∧ Mut (some u) ∧ ∀ od, Q v (upd H' d (.frz od u))) := by
  refine ⟨fun pins s σ H Q I hw => thn (h.run pins s σ H _ I hw) fun v s1 ⟨x, H1, I2, r, d, u, hd, mu, q⟩ => ?_⟩
  obtain ⟨od, I3⟩ := I2.lock hd mu
  exact ⟨x, _, I3, r, q od⟩
def dRetD (i : Nat) : TDS := fun E sl => ∃ kvs, sl[i]? = some (some (.own (.dk kvs))) ∧ E.rt (.d (.dk kvs))
theorem hrep_lock {K : PySem.W.Frag} {G H : Hp} {so : So} {a : Addr} {u : HO} (h : HRep K G so H) (g : G a = none) (s : so.Nt a) : HRep K (upd G a u) so (upd H a u) :=
  ⟨h.ex.up, fun b k q => by
    have z : b ≠ a := fun z => s (z ▸ ⟨k, q⟩)
    exact (h.vol b k q).keep (Ex.new g) (by rw [upd_ne z]; exact (h.vol b k q).g) (upd_ne z), h.ok⟩
theorem ds_retD {X : Cx} {W : WX} {i : Nat} {e : Expr} {pos : Pos} (h : PE X e (tVar i)) : DS X W (.Return (some e) pos) (dRetD i) := by
  refine ps_imp (ps_retL (ps_ret h)) fun D σ H ⟨G, so, sl, E, rep, ⟨kvs, e, q⟩, ok⟩ => ?_
  obtain ⟨v, e1, a, rfl, ga, sa, vs, ha, fa⟩ := rep.slots i _ e
  have oa : Own sl σ a := ⟨i, _, e, e1⟩
  refine ⟨.ref a, e1, a, .dK vs, ha, trivial, fun od => ?_⟩
  refine ok.rt _ _ (upd G a (.frz od (.dK vs))) (.d (.dk kvs)) ⟨Ex.new ga, hrep_lock rep.h ga sa, fun b o eb sb nb => ?_, fun b n1 g1 sb nb => ?_, .dk upd_same (fa.mono (Ex.new ga)), fun _ _ z => (nomatch z)⟩ q
  · rw [upd_ne (fun z => nb (by rw [z]; exact oa))]; exact eb
  · rw [upd_ne (fun z => nb (by rw [z]; exact oa))]; exact g1
/-! ### dict(pairs) -/
def pairsD : List D → Option (List (Key × D))
  | [] => some []
  | .tup [k, d] :: r => (match keyOf k, pairsD r with
    | some key, some ps => some ((key, d) :: ps)
    | _, _ => none)
  | _ => none
def mergeD (kvs more : List (Key × D)) : List (Key × D) := more.foldl (fun acc kv => putKD acc kv.1 kv.2) kvs
section
variable {K : PySem.W.Frag} {G H : Hp}
theorem FAll.merge : ∀ {ws : List (Key × V)} {mvs : List (Key × D)} {vs : List (Key × V)} {kvs : List (Key × D)}, FAll K G ws mvs → FAll K G vs kvs → FAll K G (mergeK vs ws) (mergeD kvs mvs)
  | _, _, _, _, .nil, h => h
  | _, _, _, _, .cons (x := x) (v := v) (d := d) (vs := ws) (ds := ms) a t, h => show FAll K G (mergeK (L2.putK _ x v) ws) (mergeD (putKD _ x d) ms) from FAll.merge t (h.putK a)
theorem pairs_ok (ex : Ex G H) : ∀ {vs : List V} {ds : List D} {kvs : List (Key × D)}, DAll K G vs ds → pairsD ds = some kvs → ∃ (ps : List Addr) (ws : List (Key × V)), vs = ps.map V.ref ∧ Paired (fun p kv => SqT K H p [kV kv.1, kv.2]) ps ws ∧ FAll K G ws kvs
  | _, _, _, .nil, e => by cases e; exact ⟨[], [], rfl, .nil, .nil⟩
  | _, _, _, .cons (d := d) h t, e => by
    unfold pairsD at e
    split at e
    · rename_i z; cases z
    · rename_i k d' r z
      cases z
      split at e
      · rename_i key ps ek ep
        cases e
        cases h with
        | tup g al =>
          cases al with
          | cons w1 al =>
            cases al with
            | cons w2 al =>
              cases al
              obtain ⟨as, ws, rfl, h2, h3⟩ := pairs_ok ex t ep
              have e1 := key_ok w1 ek
              subst e1
              exact ⟨_ :: as, (key, _) :: ws, rfl, .cons (ex_t ex g) h2, .cons w2 h3⟩
      · cases e
    · cases e
end
@[irreducible] def dictPR : List DV → (DV → Prop) → Prop
  | [v], Q => (match v.items with
    | some ds => (match pairsD ds with
      | some kvs => Q (.d (.dk (mergeD [] kvs)))
      | none => False)
    | none => False)
  | _, _ => False
def dDictP (ta : TDA) : TD := dCB dictPR ta
theorem l_dictP {v : DV} {ds : List D} {kvs : List (Key × D)} {Q : DV → Prop} (h1 : v.items = some ds) (h2 : pairsD ds = some kvs) (q : Q (.d (.dk (mergeD [] kvs)))) : dictPR [v] Q := by
  unfold dictPR
  dsimp only
  rw [h1]
  dsimp only
  rw [h2]; exact q
theorem de_dictP {X : Cx} {W : WX} {a : Expr} {ta : TDA} {p pos : Pos} (hc : X.calm = true) (hg : Gl X "dict") (hm : X.mg "dict" = none) (ha : DA X W [a] ta) (he : starEach [a] X.env = (false, eval a X.env) :: starEach [] X.env := by rfl) (hpl : (backTo pos (starEach [] X.env)).any (·.1) = false := by rfl) : DE X W (.Call (.Name "dict" p) [a] [] pos) (dDictP ta) := by
  refine pe_imp (pe_retL (pe_callTy (call_dictP hc) hg hm (by decide +kernel) ha (by decide) (by decide) he hpl)) fun σ H R ⟨G, so, sl, Q, E, rep, q, hq, hx⟩ => ?_
  refine ⟨G, so, sl, _, E, rep, q, fun vs H1 G1 ds s1 p1 w h1 => ?_, hx⟩
  unfold dictPR at h1
  split at h1
  · obtain ⟨v, rfl, w1, _⟩ := w.v1
    split at h1
    · rename_i es e
      split at h1
      · rename_i kvs ek
        obtain ⟨c, ws, rfl, g1, a1⟩ := VOk.list p1.rep.h w1 e
        obtain ⟨ps, ms, rfl, h2, h3⟩ := pairs_ok p1.rep.h.ex a1 ek
        refine ⟨c, ps, ms, rfl, SqL.of g1, h2, fun l n => ⟨l, _, upd_same, trivial, fun od => ?_⟩⟩
        have gl : G1 l = none := p1.rep.h.ex.free n
        have sl' : so.Nt l := p1.rep.h.there n
        have e2 : upd (upd H1 l (.dK (mergeK [] ms))) l (.frz od (.dK (mergeK [] ms))) = upd H1 l (.frz od (.dK (mergeK [] ms))) := upd_upd
        rw [e2]
        refine hq _ _ (upd G1 l (.frz od (.dK (mergeK [] ms)))) (.d (.dk (mergeD [] kvs))) s1 (p1.thenV ⟨Ex.new gl, hrep_lock p1.rep.h gl sl', fun b o eb sb => ?_, fun b n1 g sb => ?_, .dk upd_same ((FAll.merge h3 .nil).mono (Ex.new gl)), fun _ _ z => (nomatch z), fun _ z => (nomatch z)⟩) h1
        · rw [upd_ne (ne_of_none eb n)]; exact eb
        · rw [upd_ne (fun z => n1 (by rw [z]; exact n))]; exact g
      · exact h1.elim
    · exact h1.elim
  · exact h1.elim
/-! ### for k in d -/
@[irreducible] def keysR (x : DV) (P : List D → Prop) : Prop := match x with
  | .d (.dk kvs) => P (kvs.map fun kv => keyD kv.1)
  | .bor (.dk kvs) => P (kvs.map fun kv => keyD kv.1)
  | _ => False
def dKeys (te : TD) : TDI := fun sl Q E => te sl (fun x s1 => keysR x fun ds => Q ds s1) E
theorem it_keys {K : PySem.W.Frag} {G H : Hp} {so : So} {σ : L2.St} {sl : DSt} {c : Addr} {o : Obj} {vs : List (Key × V)} {kvs : List (Key × D)} (e : H c = some (.frz o (.dK vs))) (fa : FAll K G vs kvs) (s : so.Nt c) (n : ¬ Own sl σ c) : ItD K G so σ H sl (Itk c o vs) (kvs.map fun kv => keyD kv.1) := by
  have hl : vs.length = kvs.length := fa.len
  refine ⟨[c], fun a ha => ?_, fun i H1 hi k => ?_, fun H1 k => ?_, fun i H1 x H2 G1 k g h1 y hi => ?_⟩
  · obtain rfl : a = c := by simpa using ha
    exact ⟨by rw [e]; simp, s, n⟩
  · rw [List.length_map] at hi
    exact ⟨by rw [k c (by simp)]; exact e, by omega⟩
  · rw [List.length_map]
    exact ⟨by rw [k c (by simp)]; exact e, by omega⟩
  · obtain ⟨rfl, key, v, e1, rfl⟩ := y
    have e2 : (kvs.map fun kv => keyD kv.1)[i]? = some (keyD key) := by
      have z := congrArg (fun l => l[i]?) fa.keys
      simp only [List.getElem?_map] at z ⊢
      rw [e1] at z
      cases q : kvs[i]? with
      | none => rw [q] at z; cases z
      | some p => rw [q] at z; cases p; simp at z; simp [z]
    exact ⟨_, G1, e2, .dat h1 (keyD_ok key)⟩
theorem di_keys {X : Cx} {W : WX} {tg e : Expr} {te : TD} (h : DE X W e te) : DI X W tg e (dKeys te) := by
  refine pi_imp (pi_keys h) fun σ H R ⟨G, so, sl, Q, E, rep, q, hq, hx⟩ => ?_
  refine ⟨G, so, sl, _, E, rep, q, fun x H1 G1 dx s1 p1 h1 => ?_, hx⟩
  unfold keysR at h1
  split at h1
  · have w : DOk X.K G1 x (.dk _) := p1.val
    cases w with
    | dk g fa => exact ⟨_, _, rfl, .inl ⟨_, p1.rep.h.ex _ _ g, hq _ H1 G1 _ s1 p1.toPost (it_keys (p1.rep.h.ex _ _ g) fa (p1.rep.h.nsrc g) (rep_own p1.rep g)) h1⟩⟩
  · obtain ⟨a, rfl, sa, o, vs, g, fa⟩ := p1.val
    exact ⟨_, _, rfl, .inl ⟨_, g, hq _ H1 G1 _ s1 p1.toPost (it_keys g fa sa (p1.sepv a _ (.inr rfl) rfl)) h1⟩⟩
  · exact h1.elim
theorem l_keysD {kvs : List (Key × D)} {P : List D → Prop} (q : P (kvs.map fun kv => keyD kv.1)) : keysR (.d (.dk kvs)) P := by unfold keysR; exact q
theorem l_keysB {kvs : List (Key × D)} {P : List D → Prop} (q : P (kvs.map fun kv => keyD kv.1)) : keysR (.bor (.dk kvs)) P := by unfold keysR; exact q
end DL

set_option Elab.async false
set_option linter.all false
set_option maxRecDepth 100000
set_option autoImplicit false
set_option maxHeartbeats 2000000
/-! a dict held alone is looked at while an expression runs; in for own classes; insert, index, list(range), list(text) -/
namespace DL
open PySem PySem.Spec PyProof.Rows L2
def dBorD (i : Nat) (t : TD) : TD := fun sl Q _ => ∃ kvs, sl[i]? = some (some (.own (.dk kvs))) ∧ t (sl.set i (some (.bor (.dk kvs)))) (fun v s1 => s1[i]? = some (some (.bor (.dk kvs))) ∧ keepR v ∧ Q v (s1.set i (some (.own (.dk kvs))))) (fun _ _ _ => False)
section
variable {K : PySem.W.Frag} {G H : Hp} {so : So} {σ : L2.St} {sl : DSt} {i : Nat} {a : Addr} {kvs : List (Key × D)} {vs : List (Key × V)} {od : Obj}
theorem own_bor {b : Addr} {o : OO} (h : Own (sl.set i (some (.bor o))) σ b) : Own sl σ b ∧ ∃ j o', j ≠ i ∧ sl[j]? = some (some (.own o')) ∧ σ[j]? = some (some (.ref b)) := by
  obtain ⟨j, o', e1, e2⟩ := h
  rcases get_set e1 with ⟨_, z⟩ | ⟨ne, z⟩
  · cases z
  · exact ⟨⟨j, o', z, e2⟩, j, o', ne, z, e2⟩
theorem Rep.borD (rep : Rep K G so σ H sl) (e : sl[i]? = some (some (.own (.dk kvs)))) (e1 : σ[i]? = some (some (.ref a))) (ga : G a = none) (sa : so.Nt a) (ha : H a = some (.dK vs)) (fa : FAll K G vs kvs) :
    Rep K G so σ (upd H a (.frz od (.dK vs))) (sl.set i (some (.bor (.dk kvs)))) ∧ ¬ Own (sl.set i (some (.bor (.dk kvs)))) σ a := by
  have hi : i < sl.length := (List.getElem?_eq_some_iff.mp e).1
  have oa : Own sl σ a := ⟨i, _, e, e1⟩
  have na : ¬ Own (sl.set i (some (.bor (.dk kvs)))) σ a := fun z => by
    obtain ⟨_, j, o', ne, z1, z2⟩ := own_bor z
    exact ne (rep.sep j i o' _ a z1 e z2 e1)
  refine ⟨⟨⟨fun b o q => ?_, fun b k q => ?_, rep.h.ok⟩, by rw [List.length_set]; exact rep.len, fun j d ej => ?_, fun j k o1 o2 b q1 q2 q3 q4 => ?_, fun j o1 b q1 q2 z => ?_, fun j o1 z => ?_⟩, na⟩
  · rw [upd_ne (fun z => by rw [z, ga] at q; cases q)]; exact rep.h.ex b o q
  · exact (rep.h.vol b k q).keep (Ex.refl _) (rep.h.vol b k q).g (upd_ne fun z => sa (z ▸ ⟨k, q⟩))
  · rcases get_set ej with ⟨rfl, z⟩ | ⟨ne, z⟩
    · cases z; exact ⟨_, e1, a, rfl, sa, od, vs, upd_same, fa⟩
    · obtain ⟨v, f1, f2⟩ := rep.slots j d z
      refine ⟨v, f1, ?_⟩
      cases d with
      | d x => exact f2
      | src => exact f2
      | own o =>
        obtain ⟨b, rfl, g1, s1, k⟩ := f2
        have ab : b ≠ a := fun q => ne (rep.sep j i o _ a z e (q ▸ f1) e1)
        exact ⟨b, rfl, g1, s1, k.keep (Ex.refl _) (upd_ne ab)⟩
      | bor o =>
        obtain ⟨b, rfl, s1, k⟩ := f2
        have ab : b ≠ a := fun q => rep.bor j o b z f1 (q ▸ oa)
        exact ⟨b, rfl, s1, k.keep (Ex.refl _) (upd_ne ab)⟩
      | see o => exact absurd z (rep.nse j o)
  · rcases get_set q1 with ⟨_, z⟩ | ⟨_, z1⟩
    · cases z
    · rcases get_set q2 with ⟨_, z⟩ | ⟨_, z2⟩
      · cases z
      · exact rep.sep j k o1 o2 b z1 z2 q3 q4
  · rcases get_set q1 with ⟨rfl, y⟩ | ⟨ne, y⟩
    · rw [e1] at q2; cases q2; exact na z
    · exact rep.bor j o1 b y q2 (own_bor z).1
  · rcases get_set z with ⟨_, y⟩ | ⟨ne, y⟩
    · cases y
    · exact rep.nse j o1 y
theorem de_borD {X : Cx} {W : WX} {e : Expr} {t : TD} (h : DE X W e t) : DE X W e (dBorD i t) := by
  refine pe_imp (pe_lock h) fun σ H R ⟨G, so, sl, Q, E, rep, ⟨kvs, e, q⟩, hq, hx⟩ => ?_
  obtain ⟨v, e1, a, rfl, ga, sa, vs, ha, fa⟩ := rep.slots i _ e
  have hi : i < sl.length := (List.getElem?_eq_some_iff.mp e).1
  have oa : Own sl σ a := ⟨i, _, e, e1⟩
  refine ⟨a, .dK vs, ha, trivial, fun od => ?_⟩
  obtain ⟨rep', na⟩ := rep.borD (od := od) e e1 ga sa ha fa
  have up_a : ∀ b, b ≠ a → upd H a (.frz od (.dK vs)) b = H b := fun b n => upd_ne n
  refine ⟨G, so, _, _, _, rep', q, fun v H' G' dv sl' p z => ?_, fun _ _ _ _ _ _ _ _ z => z.elim⟩
  obtain ⟨z0, z1, z2⟩ := z
  have hi' : i < sl'.length := (List.getElem?_eq_some_iff.mp z0).1
  have g' : G' a = none := p.frm a (by rw [upd_same]; simp) ga sa na
  have h' : H' a = some (.frz od (.dK vs)) := p.keep a _ upd_same sa
  have nown : ¬ Own sl' σ a := fun w => na (p.sub a w)
  have nbor : ∀ (j : Nat) (o : OO), j ≠ i → sl'[j]? = some (some (.bor o)) → σ[j]? ≠ some (some (.ref a)) := fun j o ne q1 q2 => by
    obtain ⟨o', q3⟩ := p.bsub j o q1
    rcases get_set q3 with ⟨y, _⟩ | ⟨_, y⟩
    · exact ne y
    · exact rep.bor j o' a y q2 oa
  refine ⟨h', hq v _ G' dv (sl'.set i (some (.own (.dk kvs)))) ?_ z2⟩
  have ownset : ∀ b, Own (sl'.set i (some (.own (.dk kvs)))) σ b → b = a ∨ Own sl' σ b := fun b ⟨j, o, q1, q2⟩ => by
    rcases get_set q1 with ⟨rfl, _⟩ | ⟨_, y⟩
    · rw [e1] at q2; cases q2; exact .inl rfl
    · exact .inr ⟨j, o, y, q2⟩
  have vne : ∀ (o : OO) (b : Addr), dv = .own o → v = .ref b → b ≠ a := fun o b q1 q2 y => by
    subst y
    rcases p.new b o q1 q2 with y | y
    · rw [upd_same] at y; cases y
    · exact na y
  refine { ex := p.ex, rep := ⟨⟨fun b o q1 => ?_, fun b k q1 => ?_, p.rep.h.ok⟩, by rw [List.length_set]; exact p.rep.len, fun j d ej => ?_, fun j k o1 o2 b q1 q2 q3 q4 => ?_, fun j o1 b q1 q2 w => ?_, fun j o1 w => ?_⟩, keep := fun b o q1 sb => ?_, frm := fun b n1 g1 sb w => ?_, sub := fun b w => ?_, bsub := fun j o w => ?_, val := ?_, new := fun b o q1 q2 => ?_, sepv := fun b o q1 q2 w => ?_, nbs := fun b o j o' q1 q2 q3 q4 => ?_ }
  · rw [upd_ne (fun y => by rw [y, g'] at q1; cases q1)]; exact p.rep.h.ex b o q1
  · exact (p.rep.h.vol b k q1).keep (Ex.refl _) (p.rep.h.vol b k q1).g (upd_ne fun y => sa (y ▸ ⟨k, q1⟩))
  · rcases get_set ej with ⟨rfl, y⟩ | ⟨ne, y⟩
    · cases y; exact ⟨_, e1, a, rfl, g', sa, vs, upd_same, fa.mono p.ex⟩
    · obtain ⟨v', f1, f2⟩ := p.rep.slots j d y
      refine ⟨v', f1, ?_⟩
      cases d with
      | d x => exact f2
      | src => exact f2
      | own o =>
        obtain ⟨b, rfl, g1, s1, k⟩ := f2
        have ab : b ≠ a := fun q => nown (q ▸ ⟨j, o, y, f1⟩)
        exact ⟨b, rfl, g1, s1, k.keep (Ex.refl _) (upd_ne ab)⟩
      | bor o =>
        obtain ⟨b, rfl, s1, k⟩ := f2
        have ab : b ≠ a := fun q => nbor j o ne y (q ▸ f1)
        exact ⟨b, rfl, s1, k.keep (Ex.refl _) (upd_ne ab)⟩
      | see o => exact absurd y (p.rep.nse j o)
  · rcases get_set q1 with ⟨rfl, y⟩ | ⟨n1, y1⟩
    · rcases get_set q2 with ⟨rfl, _⟩ | ⟨n2, y2⟩
      · rfl
      · rw [e1] at q3; cases q3; exact absurd ⟨k, o2, y2, q4⟩ nown
    · rcases get_set q2 with ⟨rfl, _⟩ | ⟨n2, y2⟩
      · rw [e1] at q4; cases q4; exact absurd ⟨j, o1, y1, q3⟩ nown
      · exact p.rep.sep j k o1 o2 b y1 y2 q3 q4
  · rcases get_set q1 with ⟨_, y⟩ | ⟨ne, y⟩
    · cases y
    · rcases ownset b w with rfl | w
      · exact nbor j o1 ne y q2
      · exact p.rep.bor j o1 b y q2 w
  · rcases get_set w with ⟨_, y⟩ | ⟨ne, y⟩
    · cases y
    · exact p.rep.nse j o1 y
  · by_cases y : b = a
    · subst y; rw [ha] at q1; cases q1; exact upd_same
    · rw [upd_ne y]; exact p.keep b o (by rw [up_a b y]; exact q1) sb
  · have y : b ≠ a := fun y => w (y ▸ oa)
    exact p.frm b (by rw [up_a b y]; exact n1) g1 sb fun k => w (own_bor k).1
  · rcases ownset b w with rfl | w
    · exact oa
    · exact (own_bor (p.sub b w)).1
  · rcases get_set w with ⟨_, y⟩ | ⟨ne, y⟩
    · cases y
    · obtain ⟨o', q3⟩ := p.bsub j o y
      rcases get_set q3 with ⟨y, _⟩ | ⟨_, y⟩
      · exact absurd y ne
      · exact ⟨o', y⟩
  · have w := p.val
    cases dv with
    | d x => exact w
    | src => exact w
    | own o =>
      obtain ⟨b, rfl, g1, s1, k⟩ := w
      exact ⟨b, rfl, g1, s1, k.keep (Ex.refl _) (upd_ne (vne o b rfl rfl))⟩
    | bor o => exact z1.elim
    | see o => exact z1.elim
  · rcases p.new b o q1 q2 with y | y
    · refine .inl ?_
      by_cases q : b = a
      · exact absurd q (vne o b q1 q2)
      · rw [← up_a b q]; exact y
    · exact .inr (own_bor y).1
  · rcases ownset b w with y | w
    · rcases q1 with q1 | q1
      · exact vne o b q1 q2 y
      · rw [q1] at z1; exact z1
    · exact p.sepv b o q1 q2 w
  · rcases get_set q3 with ⟨_, y⟩ | ⟨ne, y⟩
    · cases y
    · exact p.nbs b o j o' q1 q2 y q4
end
/-! ### x in y by an own __contains__ -/
section
variable {X : Cx} {k : Nat} {f C : Addr} {fd : FuncData} {ps : List Str} {sp : SpD}
def rInI (K : PySem.W.Frag) (C : Addr) (sp : SpD) (n : Bool) : R2 := fun x y H Q => ∃ a dx fs, y = .ref a ∧ H a = some (.ins C dx fs) ∧ upSp K sp [y, x] H (fun v H' => ∃ b, v = .bl b ∧ Q (.bl (if n then !b else b)) H') fun _ _ _ => False
theorem op_inI (hm : Meth X.K C "__contains__" f) (F : FnG X.prog X.w X.K X.mg X.base k f fd ps sp) (hr : Room (k + 1) X.A) (hg : X.A.guards = some []) (hb : Binds X.K fd ps []) : OpR X (compareOp .In) (rInI X.K C sp false) := by
  intro pins s σ H x y v u Q I rx ry h
  obtain ⟨a, dx, fs, rfl, e, q⟩ := h
  cases ry
  obtain ⟨mA, J, _⟩ := ins_get I.hok e
  obtain ⟨od, J, _⟩ := J.look
  obtain ⟨m, hF⟩ := I.fr
  refine PySem.W.in_K (h₀ := X.base) hF I.ok.mod.kin J hm.at_ hm.fn ?_
  refine wpAny_mono (run_dun (A := X.A) F (hr.mono (by omega)) hg rfl hb I (vs := [.ref a, x]) (.cons rfl (.cons rx .nil)) q) (fun v s' hv => ?_) fun _ _ x => x
  obtain ⟨z, H', I', rz, b, rfl, hq⟩ := hv
  obtain rfl : v = .bool b := rz
  exact wpAny_truthy_bool ⟨.bl b, H', I', rfl, hq⟩
theorem op_notInI (hm : Meth X.K C "__contains__" f) (F : FnG X.prog X.w X.K X.mg X.base k f fd ps sp) (hr : Room (k + 1) X.A) (hg : X.A.guards = some []) (hb : Binds X.K fd ps []) : OpR X (compareOp .NotIn) (rInI X.K C sp true) := by
  intro pins s σ H x y v u Q I rx ry h
  obtain ⟨a, dx, fs, rfl, e, q⟩ := h
  cases ry
  obtain ⟨mA, J, _⟩ := ins_get I.hok e
  obtain ⟨od, J, _⟩ := J.look
  obtain ⟨m, hF⟩ := I.fr
  refine PySem.W.notIn_K (h₀ := X.base) hF I.ok.mod.kin J hm.at_ hm.fn ?_
  refine wpAny_mono (run_dun (A := X.A) F (hr.mono (by omega)) hg rfl hb I (vs := [.ref a, x]) (.cons rfl (.cons rx .nil)) q) (fun v s' hv => ?_) fun _ _ x => x
  obtain ⟨z, H', I', rz, b, rfl, hq⟩ := hv
  obtain rfl : v = .bool b := rz
  exact wpAny_truthy_bool ⟨.bl (!b), H', I', rfl, hq⟩
@[irreducible] def inIR (C : Addr) (sp : SpD) (n : Bool) (x y : DV) (Q : DV → Prop) : Prop := match x, y with
  | .d e, .d (.ins D fs) => D = C ∧ sp [.d (.ins D fs), .d e] (fun v => match v with
    | .d (.bl b) => Q (.d (.bl (if n then !b else b)))
    | _ => False) fun _ _ => False
  | _, _ => False
theorem sem_inI {K : PySem.W.Frag} {n : Bool} : OpSem K (rInI K C sp n) (inIR C sp n) := by
  intro G so H x y dx dy Q R h wx wy q hk
  unfold inIR at q
  split at q
  · rename_i e D fs
    obtain ⟨rfl, q⟩ := q
    obtain ⟨a, dd, vs, rfl, ea, _⟩ := wy.inst h rfl
    refine ⟨a, dd, vs, rfl, ea, G, so, _, _, _, h, .cons wy (fun _ e => (nomatch e)) (.cons wx (fun _ e => (nomatch e)) .nil), q, fun v H' G' dv p z => ?_, fun _ _ _ _ _ _ _ z => z⟩
    split at z
    · rename_i b
      have : v = .bl b := by
        have := p.val
        cases this; rfl
      subst this
      exact ⟨b, rfl, hk _ H' G' (.d (.bl (if n then !b else b))) ⟨p.ex, p.hrep, p.keep, p.frm, .bl _, fun _ _ e => (nomatch e), fun _ e => (nomatch e)⟩ z⟩
    · exact z.elim
  · exact q.elim
theorem l_inI {n : Bool} {fs : List (Str × D)} {e : D} {Q : DV → Prop} (h : sp [.d (.ins C fs), .d e] (fun v => match v with
    | .d (.bl b) => Q (.d (.bl (if n then !b else b)))
    | _ => False) fun _ _ => False) : inIR C sp n (.d e) (.d (.ins C fs)) Q := by
  unfold inIR
  exact ⟨rfl, h⟩
end
end DL

set_option Elab.async false
set_option linter.all false
set_option maxRecDepth 100000
set_option autoImplicit false
set_option maxHeartbeats 2000000
/-! insert, index, list(range), list(text) -/
namespace DL
open PySem PySem.Spec PyProof.Rows L2
/-! ### name.insert(i, value), the list held alone -/
def insD (ds : List D) (k : Nat) (d : D) : List D := ds.take k ++ [d] ++ ds.drop k
def dInsert (tk te : TD) (i : Nat) : TDS := fun E sl => (∃ ds, sl[i]? = some (some (.own (.lst ds)))) ∧ tk sl (fun x s1 => te s1 (fun y s2 => match s2[i]?, pubV x, pubV y with
  | some (some (.own (.lst ds))), .d (.int k), .d d => ds.length < szl ∧ 0 ≤ k ∧ k < 2 ^ 63 ∧ E.nx (s2.set i (some (.own (.lst (insD ds k.toNat d)))))
  | _, _, _ => False) E.xc) E.xc
section
variable {X : Cx} {W : WX} {o key value : Expr} {tk te : TD} {pos pos' : Pos} {i : Nat}
theorem ds_insert (ho : PE X o (tVar i)) (hk : DE X W key tk) (hv : DE X W value te) (hbase : attributeBase o "insert" X.env (eval o X.env) = eval o X.env := by rfl)
    (hfew : ((backTo pos (starEach [key, value] X.env)).all (fun x => !x.1) && (backToKw pos (keywordEach [] X.env)).all (fun x => x.1.isSome)
      && decide ([key, value].length + ([] : List Keyword).length + (if ([] : List Keyword).isEmpty then 0 else 1) < 30)) = true := by rfl)
    (hline : (pos'.endLine == pos.line) = true := by rfl) (hs : starEach [key, value] X.env = (false, eval key X.env) :: starEach [value] X.env := by rfl) (hs2 : starEach [value] X.env = (false, eval value X.env) :: starEach [] X.env := by rfl) (hplain : (backTo pos (starEach [value] X.env)).any (·.1) = false := by rfl) {spos : Pos}
    (hsw : swapsWith (.Call (.Attribute o "insert" pos') [key, value] [] pos) none spos.line X.env = pure false := by rfl) :
    DS X W (.Expr (.Call (.Attribute o "insert" pos') [key, value] [] pos) spos) (dInsert tk te i) := by
  refine ps_imp (ps_expr (pe_bm PySem.F.plainAttrs_list PySem.F.slot_list_insert PySem.F.type_list_insert mt_insert ho (pa_cons hk (pa_cons hv pa_nil hs2) hs) hbase hfew hline hs hplain) hsw) fun D σ H ⟨G, so, sl, E, rep, q, ok⟩ => ?_
  obtain ⟨⟨ds0, e0⟩, q⟩ := q
  obtain ⟨v0, f0, a, rfl, ga, sa, vs0, h0, d0⟩ := rep.slots i _ e0
  refine ⟨.ref a, f0, .inl ⟨rfl, _, SqL.of h0⟩, ?_⟩
  refine ⟨G, so, sl, _, E.xc, rep, q, fun x H1 G1 dx s1 p1 z => ?_, ok.xc.ex⟩
  obtain ⟨G1', p1'⟩ := p1.pub
  refine ⟨G1', so, s1, _, E.xc, p1'.rep, z, fun y H2 G2 dy s2 p2 z2 => ?_, (ok.step p1'.toPost.s).xc.ex⟩
  obtain ⟨G2', p2'⟩ := p2.pub
  split at z2
  · rename_i ds k d e1 e2 e3
    obtain ⟨l, k0, k1, z2⟩ := z2
    obtain ⟨v, f1, b, rfl, gb, sb, vs, h1, h2⟩ := p2'.rep.slots i _ e1
    rw [f0] at f1
    cases f1
    have wy : DOk X.K G2' y d := by have := p2'.val; rw [e3] at this; exact this
    have wx : DOk X.K G2' x (.int k) := by have := p1'.over p2'.toPost; rw [e2] at this; exact this
    obtain rfl : x = .int k := by cases wx; rfl
    refine ⟨a, vs, k, y, rfl, rfl, h1, by rw [h2.length, ← szl_eq]; exact l, k0, k1, ?_⟩
    exact ok.nx σ _ G2' _ ((p1'.toPost.trans p2'.toPost).s.trans (PostS.mut (o' := .lst (insD ds k.toNat d)) p2'.rep e1 f0 ⟨_, upd_same, ((h2.take k.toNat).append (.cons wy .nil)).append (h2.drop k.toNat)⟩)) z2
  · exact z2.elim
theorem ins_cut {u : TDS} {E : EndsD} {sl s' : DSt} (ds : List D) (R : Nat → Prop) (d : D) (h : ∀ Q : DV → DSt → Prop, (∀ k : Nat, R k → Q (.d (.int k)) sl) → tk sl Q E.xc) (h2 : ∀ Q : DV → DSt → Prop, Q (.d d) sl → te sl Q E.xc) (q : ∀ k, R k → u E (sl.set i (some (.own (.lst (insD ds k d)))))) (hR : ∀ k, R k → k < 2 ^ 60) (hl : ds.length < szl) (e : sl[i]? = some (some (.own (.lst ds))) := by rfl) : dSeq (dInsert tk te i) u E sl := by
  refine ⟨⟨ds, e⟩, h _ fun k hk => h2 _ ?_⟩
  show (match sl[i]?, DV.d (.int k), DV.d d with
    | some (some (.own (.lst ds))), .d (.int k), .d d => ds.length < szl ∧ 0 ≤ k ∧ k < 2 ^ 63 ∧ u E (sl.set i (some (.own (.lst (insD ds k.toNat d)))))
    | _, _, _ => False)
  rw [e]
  exact ⟨hl, by omega, by have := hR k hk; omega, by rw [Int.toNat_natCast]; exact q k hk⟩
theorem ins_end {E : EndsD} {sl : DSt} (ds : List D) (R : Nat → Prop) (d : D) (h : ∀ Q : DV → DSt → Prop, (∀ k : Nat, R k → Q (.d (.int k)) sl) → tk sl Q E.xc) (h2 : ∀ Q : DV → DSt → Prop, Q (.d d) sl → te sl Q E.xc) (q : ∀ k, R k → E.nx (sl.set i (some (.own (.lst (insD ds k d)))))) (hR : ∀ k, R k → k < 2 ^ 60) (hl : ds.length < szl) (e : sl[i]? = some (some (.own (.lst ds))) := by rfl) : dInsert tk te i E sl := by
  refine ⟨⟨ds, e⟩, h _ fun k hk => h2 _ ?_⟩
  show (match sl[i]?, DV.d (.int k), DV.d d with
    | some (some (.own (.lst ds))), .d (.int k), .d d => ds.length < szl ∧ 0 ≤ k ∧ k < 2 ^ 63 ∧ E.nx (sl.set i (some (.own (.lst (insD ds k.toNat d)))))
    | _, _, _ => False)
  rw [e]
  exact ⟨hl, by omega, by have := hR k hk; omega, by rw [Int.toNat_natCast]; exact q k hk⟩
/-! ### (texts).index(text) -/
@[irreducible] def idxR (x y : DV) (Q : DV → Prop) : Prop := match x, y with
  | .d (.tup ds), .d (.str z) => (match strsD ds with
    | some ss => ∃ j : Nat, ss[j]? = some z ∧ (∀ m, m < j → ss[m]? ≠ some z) ∧ Q (.d (.int j))
    | none => False)
  | _, _ => False
/-- a written tuple of the module -/
def GlobT (K : PySem.W.Frag) (mg : Str → Option Value) (x : Str) (ds : List D) : Prop := ∃ b o, mg x = some (.ref b) ∧ K.lookup b = some o ∧ o.cls = .type "tuple" ∧ o.dict = none ∧ ∀ G, DOk K G (.ref b) (.tup ds)
def gtB (K : PySem.W.Frag) (x : Str) (ds : List D) : Bool := match PySem.W.nsIn K mainGlobals x with
  | some (some (.ref b)) => (match K.lookup b with
    | some ⟨.type c, none, _, _⟩ => decide (c = "tuple") && datB K (.tup ds) (.ref b)
    | _ => false)
  | _ => false
theorem gtB_ok {K : PySem.W.Frag} {h : Heap} {mg : Str → Option Value} (X : K.In h) (G : h.Ns mainGlobals mg) {x : Str} {ds : List D} (c : gtB K x ds = true) : GlobT K mg x ds := by
  unfold gtB at c
  split at c
  · rename_i b e
    split at c
    · rename_i cc da sl q
      obtain ⟨h1, h2⟩ := He.ba c
      obtain ⟨v, r, w⟩ := datB_ok _ _ h2
      have ev : v = .ref b := by
        have w1 := w (fun _ => none)
        cases w1
        injection r with r
        rw [r]
      subst ev
      exact ⟨b, _, PySem.W.mg_of X G e, q, congrArg Value.type (of_decide_eq_true h1), rfl, w⟩
    · cases c
  · cases c
theorem gt_ok {l : LX} {fa : List He.Fa} {fn : List He.DefD} {h : Heap} {K : PySem.W.Frag} {mg : Str → Option Value} {x : Str} {ds : List D} (S : SaysX l fa fn h K) (X : K.In h) (G : h.Ns mainGlobals mg) {i : Nat} (e : l.xs[i]? = some (fun K => gtB K x ds)) : GlobT K mg x ds :=
  gtB_ok X G (List.all_eq_true.mp (He.ba (He.ba S.c).2).2 _ (List.mem_of_getElem? e))
theorem de_index {ds : List D} {x : Str} {xp : Pos} (hg : Gl X x) (T : GlobT X.K X.mg x ds) (he : DE X W value te) (hs : starEach [value] X.env = (false, eval value X.env) :: starEach [] X.env := by rfl) (hbase : attributeBase (.Name x xp) "index" X.env (eval (.Name x xp) X.env) = eval (.Name x xp) X.env := by rfl)
    (hfew : ((backTo pos (starEach [value] X.env)).all (fun x => !x.1) && (backToKw pos (keywordEach [] X.env)).all (fun x => x.1.isSome)
      && decide ([value].length + ([] : List Keyword).length + (if ([] : List Keyword).isEmpty then 0 else 1) < 30)) = true := by rfl)
    (hline : (pos'.endLine == pos.line) = true := by rfl) (hplain : (backTo pos (starEach [] X.env)).any (·.1) = false := by rfl) (hdb : (x == ("__debug__" : Str)) = false := by decide) : DE X W (.Call (.Attribute (.Name x xp) "index" pos') [value] [] pos) (dUn (idxR (.d (.tup ds))) te) := by
  obtain ⟨b, o, m, lk, c1, c2, w⟩ := T
  refine pe_imp (pe_bm PySem.F.plainAttrs_tuple PySem.F.slot_tuple_index PySem.F.type_tuple_index mt_tup_index (pe_glob (v := .ref b) hg m rfl hdb) (pa_cons he pa_nil hs) hbase hfew hline hs hplain) fun σ H R ⟨G, so, sl, Q, E, rep, q, hq, hx⟩ => ?_
  refine ⟨.inr (.inl ⟨rfl, o, lk, c1, c2⟩), ?_⟩
  refine ⟨G, so, sl, _, E, rep, q, fun y H2 G2 dy s2 p2 h2 => ?_, hx⟩
  unfold idxR at h2
  split at h2
  · rename_i es z e1
    cases e1
    split at h2
    · rename_i ss e
      obtain ⟨j, j1, j2, h2⟩ := h2
      obtain ⟨b', vs', eb, g2, a2⟩ := VOk.tup p2.rep.h (show VOk X.K G2 so H2 (.ref b) (.d (.tup ds)) from w G2)
      cases eb
      have w2 : DOk X.K G2 y (.str z) := p2.val
      cases w2
      exact ⟨b, ss, z, j, rfl, rfl, by rw [← strs_ok a2 e]; exact g2, j1, j2, hq _ H2 G2 _ s2 (p2.toPost.thenV (.dat p2.rep.h (.int _))) h2⟩
    · exact h2.elim
  · exact h2.elim
theorem l_idx {ds : List D} {ss : List Str} {z : Str} {j : Nat} {Q : DV → Prop} (h : strsD ds = some ss) (h1 : ss[j]? = some z) (h2 : ∀ m, m < j → ss[m]? ≠ some z) (q : Q (.d (.int j))) : idxR (.d (.tup ds)) (.d (.str z)) Q := by
  unfold idxR
  dsimp only
  rw [h]; exact ⟨j, h1, h2, q⟩
/-! ### list(range(n)) -/
def dListRg (te : TD) : TD := fun sl Q E => te sl (fun x s1 => match x with
  | .d (.int n) => 0 ≤ n ∧ n ≤ 16777216 ∧ Q (.own (.lst (intsFrom 0 n.toNat))) s1
  | _ => False) E
theorem rg_all {K : PySem.W.Frag} {G : Hp} (n : Nat) (lo : Int) : DAll K G ((List.range n).map fun (i : Nat) => V.int (lo + (i : Int))) (intsFrom lo n) := by
  induction n generalizing lo with
  | zero => exact .nil
  | succ n ih =>
    rw [List.range_succ_eq_map, List.map_cons, List.map_map]
    have e : ((fun (i : Nat) => V.int (lo + (i : Int))) ∘ Nat.succ) = fun (i : Nat) => V.int (lo + 1 + (i : Int)) := by
      funext i
      show V.int (lo + ((i + 1 : Nat) : Int)) = V.int (lo + 1 + (i : Int))
      congr 1; omega
    rw [e]
    have e0 : lo + ((0 : Nat) : Int) = lo := by omega
    rw [e0]
    exact .cons (.int lo) (ih (lo + 1))
theorem de_listRg {e : Expr} {te : TD} {p q' r' : Pos} (hc : X.calm = true) (hg : Gl X "list") (hm : X.mg "list" = none) (hg2 : Gl X "range") (hm2 : X.mg "range" = none) (he : DE X W e te) (na : starEach [e] X.env = (false, eval e X.env) :: starEach [] X.env := by rfl)
    (nb : starEach [.Call (.Name "range" q') [e] [] r'] X.env = (false, eval (.Call (.Name "range" q') [e] [] r') X.env) :: starEach [] X.env := by rfl) : DE X W (.Call (.Name "list" p) [.Call (.Name "range" q') [e] [] r'] [] pos) (dListRg te) := by
  refine pe_imp (pe_listRg hc hg hm (prg_1 hg2 hm2 he na) nb) fun σ H R ⟨G, so, sl, Q, E, rep, q, hq, hx⟩ => ?_
  refine ⟨G, so, sl, _, E, rep, q, fun x H1 G1 dx s1 p1 h1 => ?_, hx⟩
  split at h1
  · rename_i n
    obtain ⟨h0, h2, h1⟩ := h1
    have w : DOk X.K G1 x (.int n) := p1.val
    cases w
    refine ⟨n, rfl, RgOk.of_le (by omega) h2 (by omega) h0, fun l nl => ?_⟩
    have e2 : rgV 0 n = (List.range n.toNat).map fun (i : Nat) => V.int ((0 : Int) + (i : Int)) := by
      unfold rgV; rw [Int.sub_zero]
    rw [e2]
    exact hq _ _ G1 _ s1 (p1.toPost.thenV (.list p1.rep.h nl (rg_all _ _))) h1
  · exact h1.elim
/-! ### list(text) -/
theorem call_listS {X : Cx} (hc : X.calm = true) : CallR X (.type "list") (fun xs H Q => ∃ z : Str, xs = [.str z] ∧ z.length ≤ sizeLine ∧ ∀ l, H l = none → Q (.ref l) (upd H l (.lst (z.cps.toList.map fun c => V.str ⟨#[c]⟩)))) := by
  intro pins s σ H xs us Q I r h
  obtain ⟨z, rfl, hz, q⟩ := h
  obtain ⟨u, rfl, t, rfl⟩ := vals1 r
  refine call_list_str (I.ok.hd hc) z t (fun h' tk acc c' hk e' hi => ?_) hz
  refine ⟨.ref s.heap.objs.size, upd H s.heap.objs.size (.lst (z.cps.toList.map fun c => V.str ⟨#[c]⟩)), I.laid hk (Nat.le_refl _) (show ObjOk X.prog X.w _ _ _ (.lst _) from ⟨?_, acc.toList, c', ?_, ?_⟩), rfl, q _ (I.hok.fresh (Nat.le_refl _))⟩
  · rw [List.length_map]; exact hz
  · refine vals_of_at ?_ fun j x u e1 e2 => ?_
    · rw [List.length_map, Array.length_toList, Array.length_toList]; exact hi.1.symm
    · rw [Array.getElem?_toList] at e2
      obtain ⟨c, tt, f1, rfl⟩ := hi.2 j u e2
      rw [List.getElem?_map, Array.getElem?_toList, f1] at e1
      cases e1
      exact ⟨tt, rfl⟩
  · rw [Array.toArray_toList]; exact e'
end
@[irreducible] def listSR : List DV → (DV → Prop) → Prop
  | [.d (.str z)], Q => z.length ≤ szl ∧ Q (.own (.lst (signs z)))
  | _, _ => False
theorem signs_all {K : PySem.W.Frag} {G : Hp} : ∀ cs : List Nat, DAll K G (cs.map fun c => V.str ⟨#[c]⟩) (cs.map fun c => D.str ⟨#[c]⟩)
  | [] => .nil
  | c :: r => .cons (.str _) (signs_all r)
theorem sem_listS {K : PySem.W.Frag} : CallSem K (fun xs H Q => ∃ z : Str, xs = [.str z] ∧ z.length ≤ sizeLine ∧ ∀ l, H l = none → Q (.ref l) (upd H l (.lst (z.cps.toList.map fun c => V.str ⟨#[c]⟩)))) listSR := by
  intro G so H xs dxs Q R h w q k
  unfold listSR at q
  split at q
  · obtain ⟨v, rfl, w1, _⟩ := w.v1
    cases w1
    exact ⟨_, rfl, by rw [← szl_eq]; exact q.1, fun l n => k _ _ G _ (.list h n (signs_all _)) q.2⟩
  · exact q.elim
theorem l_listS {z : Str} {Q : DV → Prop} (h : z.length ≤ szl) (q : Q (.own (.lst (signs z)))) : listSR [.d (.str z)] Q := by
  unfold listSR; exact ⟨h, q⟩
end DL

set_option Elab.async false
set_option linter.all false
set_option maxRecDepth 100000
set_option autoImplicit false
set_option maxHeartbeats 2000000
/-! ratios of many bits; names; tables of distances -/
namespace DL
open PySem PySem.Spec PyProof.Rows L2
theorem mulW {i j : Int} {B C : Nat} (h1 : i.natAbs < 2 ^ B) (h2 : j.natAbs < 2 ^ C) (h : B + C ≤ 900000) : CMulW i j := wide_mul (a := B + 1) (b := C + 1) (Nat.lt_of_lt_of_le h1 (Nat.pow_le_pow_right (by decide) (by omega))) (Nat.lt_of_lt_of_le h2 (Nat.pow_le_pow_right (by decide) (by omega))) (by omega) (by omega) (by omega)
theorem nbd {B : Nat} {q : Rat} (h : Nb B q) : (q.den : Int).natAbs < 2 ^ B := by simpa using h.d
theorem den_bits {p q : Rat} (hp : Nb 3900 p) (hq : Nb 3900 q) : ((p.den : Int) * (q.den : Int)).natAbs < 2 ^ 8000 := by
  rw [Int.natAbs_mul]
  refine Nat.lt_of_lt_of_le (Nat.mul_lt_mul'' (nbd hp) (nbd hq)) ?_
  rw [← Nat.pow_add]
  exact Nat.pow_le_pow_right (by decide) (by decide)
theorem same_den {p q : Rat} (e : (p.den : Int) = q.den) : p + q = Rat.divInt (p.num + q.num) p.den := by
  have h0 := den_pos p
  rw [← rat_add, ← e, ← Int.add_mul, Rat.divInt_eq_divInt_iff (by exact Int.ne_of_gt (Int.mul_pos h0 h0)) (by omega), Int.mul_assoc]
/-! ### names -/
def low (c : Nat) : Bool := decide (c ∈ ("abcdefghijklmnopqrstuvwxyz" : Str).cps.toList)
def nameOk (z : Str) : Bool := decide (1 ≤ z.length) && decide (z.length ≤ 5) && z.cps.toList.all low
def nameB : D → Bool
  | .str z => nameOk z
  | _ => false
def lowD : D → D
  | .str s => .bl (match s.cps.toList with | [c] => low c | _ => false)
  | _ => .bl false
/-! ### tables -/
def rowX (n : Nat) (x : Nat → D) : D := .lst ((List.range n).map x)
def tabX (n : Nat) (x : Nat → Nat → D) : D := .lst ((List.range n).map fun i => rowX n (x i))
def tabD (n : Nat) (f : Nat → Nat → Rat) : D := tabX n fun i j => rD (f i j)
structure GoodF (n : Nat) (f : Nat → Nat → Rat) : Prop where
  pos : ∀ i j, i < n → j < n → 0 ≤ f i j
  dia : ∀ i, i < n → f i i = 0
  tri : ∀ i j k, i < n → j < n → k < n → f i j ≤ f i k + f k j
def leastQ (p q : Rat) : Rat := if q < p then q else p
def stepF (f : Nat → Nat → Rat) (m : Nat) : Nat → Nat → Rat := fun i j => leastQ (f i j) (f i m + f m j)
def closeF (f : Nat → Nat → Rat) : Nat → Nat → Nat → Rat
  | 0 => f
  | m + 1 => stepF (closeF f m) m
theorem least_le1 (p q : Rat) : leastQ p q ≤ p := by
  unfold leastQ
  split
  · grind
  · grind
theorem least_le2 (p q : Rat) : leastQ p q ≤ q := by
  unfold leastQ
  split
  · grind
  · grind
theorem least_or (p q : Rat) : leastQ p q = p ∨ leastQ p q = q := by
  unfold leastQ
  split
  · exact .inr rfl
  · exact .inl rfl
structure UpTo (n m : Nat) (g : Nat → Nat → Rat) : Prop where
  pos : ∀ i j, i < n → j < n → 0 ≤ g i j
  dia : ∀ i, i < n → g i i = 0
  tri : ∀ i j k, i < n → j < n → k < m → g i j ≤ g i k + g k j
theorem up_step {n m : Nat} {g : Nat → Nat → Rat} (h : UpTo n m g) (hm : m < n) : UpTo n (m + 1) (stepF g m) := by
  have col : ∀ i, i < n → stepF g m i m = g i m := fun i hi => by
    unfold stepF leastQ
    have := h.dia m hm
    split
    · rename_i z; grind
    · rfl
  have row : ∀ j, j < n → stepF g m m j = g m j := fun j hj => by
    unfold stepF leastQ
    have := h.dia m hm
    split
    · rename_i z; grind
    · rfl
  refine ⟨fun i j hi hj => ?_, fun i hi => ?_, fun i j k hi hj hk => ?_⟩
  · have h1 := h.pos i j hi hj
    have h2 := h.pos i m hi hm
    have h3 := h.pos m j hm hj
    unfold stepF
    rcases least_or (g i j) (g i m + g m j) with e | e <;> rw [e]
    · exact h1
    · grind
  · have h1 := h.dia i hi
    have h2 := h.pos i m hi hm
    have h3 := h.pos m i hm hi
    unfold stepF leastQ
    split
    · grind
    · exact h1
  · have l1 := least_le1 (g i j) (g i m + g m j)
    have l2 := least_le2 (g i j) (g i m + g m j)
    by_cases e : k = m
    · subst e
      rw [col i hi, row j hj]
      exact l2
    · have hk' : k < m := by omega
      have kn : k < n := by omega
      show leastQ (g i j) (g i m + g m j) ≤ leastQ (g i k) (g i m + g m k) + leastQ (g k j) (g k m + g m j)
      have t1 := h.tri i j k hi hj hk'
      have t2 := h.tri m j k hm hj hk'
      have t3 := h.tri i m k hi hm hk'
      have p1 := h.pos m k hm kn
      have p2 := h.pos k m kn hm
      rcases least_or (g i k) (g i m + g m k) with e1 | e1 <;> rcases least_or (g k j) (g k m + g m j) with e2 | e2 <;> rw [e1, e2] <;> grind
theorem close_up {n : Nat} {f : Nat → Nat → Rat} (h1 : ∀ i j, i < n → j < n → 0 ≤ f i j) (h2 : ∀ i, i < n → f i i = 0) : ∀ m, m ≤ n → UpTo n m (closeF f m)
  | 0, _ => ⟨h1, h2, fun _ _ _ _ _ z => absurd z (by omega)⟩
  | m + 1, h => up_step (close_up h1 h2 m (by omega)) (by omega)
theorem close_good {n : Nat} {f : Nat → Nat → Rat} (h1 : ∀ i j, i < n → j < n → 0 ≤ f i j) (h2 : ∀ i, i < n → f i i = 0) : GoodF n (closeF f n) :=
  let u := close_up h1 h2 n (Nat.le_refl _)
  ⟨u.pos, u.dia, u.tri⟩
def bitsF : Nat → Nat
  | 0 => 40
  | m + 1 => 2 * bitsF m + 1
theorem close_bits {n : Nat} {f : Nat → Nat → Rat} (h : ∀ i j, i < n → j < n → Nb 40 (f i j)) : ∀ m, m ≤ n → ∀ i j, i < n → j < n → Nb (bitsF m) (closeF f m i j)
  | 0, _, i, j, hi, hj => h i j hi hj
  | m + 1, hm, i, j, hi, hj => by
    have a := close_bits h m (by omega) i j hi hj
    have b := close_bits h m (by omega) i m hi (by omega)
    have c := close_bits h m (by omega) m j (by omega) hj
    show Nb (2 * bitsF m + 1) (leastQ (closeF f m i j) (closeF f m i m + closeF f m m j))
    rcases least_or (closeF f m i j) (closeF f m i m + closeF f m m j) with e | e <;> rw [e]
    · exact a.mono (by omega)
    · exact (nb_add b c).mono (by omega)
section
variable {g : TDG} {tt : TDT} {te : TD} {vs : List Nat} {Q : DV → DSt → Prop}
/-- a comprehension that takes some of its items -/
theorem lcL_some (R : D → Prop) (S : DSt) {ds0 : List D} (hl : ds0.length ≤ szl)
    (step : ∀ d ∈ ds0, ∀ (M : D → DSt → Prop) (A : DSt → Prop), (∀ y, R y → M y S) → A S → g d S fun s1 => tt s1 (fun b s2 => Br b (te s2 (fun x s3 => match pubV x with
      | .d y => M y (wipeD s3 vs)
      | _ => False) fun _ _ _ => False) (A (wipeD s2 vs))) fun _ _ _ => False) (q : ∀ xs : List D, xs.length ≤ ds0.length → (∀ x ∈ xs, R x) → Q (.own (.lst xs)) S) : dLcL g tt te vs Q ds0 [] S := by
  have go : ∀ (ds acc : List D), acc.length + ds.length ≤ ds0.length → (∀ d ∈ ds, d ∈ ds0) → (∀ x ∈ acc, R x) → dLcL g tt te vs Q ds acc S := by
    intro ds
    induction ds with
    | nil => intro acc h1 _ h3; rw [lcL_nil]; exact q acc (by simpa using h1) h3
    | cons d r ih =>
      intro acc h1 h2 h3
      rw [List.length_cons] at h1
      rw [lcL_cons]
      refine step d (h2 d (List.mem_cons_self ..)) (fun y s => acc.length < szl ∧ dLcL g tt te vs Q r (acc ++ [y]) s) (fun s => dLcL g tt te vs Q r acc s) (fun y hy => ⟨by omega, ?_⟩) ?_
      · refine ih (acc ++ [y]) (by rw [List.length_append, List.length_singleton]; omega) (fun d' h => h2 d' (List.mem_cons_of_mem _ h)) (fun x hx => ?_)
        rcases List.mem_append.mp hx with h | h
        · exact h3 x h
        · rw [List.mem_singleton.mp h]; exact hy
      · exact ih acc (by omega) (fun d' h => h2 d' (List.mem_cons_of_mem _ h)) h3
  exact go ds0 [] (by simp) (fun _ h => h) (fun _ h => (nomatch h))
/-- a comprehension over range(n) -/
theorem lcL_rng (f : Nat → D) (S : DSt) {n : Nat} (hl : n ≤ szl)
    (step : ∀ i, i < n → ∀ (M : D → DSt → Prop) (A : DSt → Prop), M (f i) S → g (.int (i : Int)) S fun s1 => tt s1 (fun b s2 => Br b (te s2 (fun x s3 => match pubV x with
      | .d y => M y (wipeD s3 vs)
      | _ => False) fun _ _ _ => False) (A (wipeD s2 vs))) fun _ _ _ => False) (q : Q (.own (.lst ((List.range n).map f))) S) : dLcL g tt te vs Q (intsFrom 0 n) [] S := by
  refine lcL_map (fun d => match d with | .int i => f i.toNat | _ => .non) S (by rw [intsFrom_len]; exact hl) (fun d hd M A m => ?_) ?_
  · obtain ⟨i, hi, rfl⟩ := mem_ints hd
    have e : (0 : Int) + (i : Int) = (i : Int) := by omega
    rw [e] at m ⊢
    exact step i hi M A (by simpa using m)
  · rw [ints_map]
    have e : (List.range n).map (fun (i : Nat) => (match D.int ((0 : Int) + (i : Int)) with | .int i => f i.toNat | _ => .non)) = (List.range n).map f := List.map_congr_left fun i _ => by
      show f ((0 : Int) + (i : Int)).toNat = f i
      congr 1; omega
    rw [e]; exact q
/-- .. the entries of a kind, by their places -/
theorem lcL_rngR (R : Nat → D → Prop) (S : DSt) {n : Nat} (hl : n ≤ szl)
    (step : ∀ i, i < n → ∀ (M : D → DSt → Prop) (A : DSt → Prop), (∀ y, R i y → M y S) → g (.int (i : Int)) S fun s1 => tt s1 (fun b s2 => Br b (te s2 (fun x s3 => match pubV x with
      | .d y => M y (wipeD s3 vs)
      | _ => False) fun _ _ _ => False) (A (wipeD s2 vs))) fun _ _ _ => False) (q : ∀ f : Nat → D, (∀ i, i < n → R i (f i)) → Q (.own (.lst ((List.range n).map f))) S) : dLcL g tt te vs Q (intsFrom 0 n) [] S := by
  have go : ∀ (k : Nat) (f : Nat → D) (acc : List D) (i : Nat), i + k = n → acc = (List.range i).map f → (∀ j, j < i → R j (f j)) → dLcL g tt te vs Q (intsFrom (i : Int) k) acc S := by
    intro k
    induction k with
    | zero =>
      intro f acc i h1 h2 h3
      show dLcL g tt te vs Q [] acc S
      rw [lcL_nil, h2]
      have e : i = n := by omega
      subst e
      exact q f h3
    | succ k ih =>
      intro f acc i h1 h2 h3
      show dLcL g tt te vs Q (.int (i : Int) :: intsFrom ((i : Int) + 1) k) acc S
      rw [lcL_cons]
      refine step i (by omega) (fun y s => acc.length < szl ∧ dLcL g tt te vs Q (intsFrom ((i : Int) + 1) k) (acc ++ [y]) s) (fun s => dLcL g tt te vs Q (intsFrom ((i : Int) + 1) k) acc s) (fun y hy => ⟨by rw [h2, List.length_map, List.length_range]; omega, ?_⟩)
      have e : ((i : Int) + 1) = ((i + 1 : Nat) : Int) := by omega
      rw [e]
      refine ih (fun j => if j = i then y else f j) (acc ++ [y]) (i + 1) (by omega) ?_ (fun j hj => ?_)
      · rw [List.range_succ, List.map_append, h2]
        congr 1
        · exact List.map_congr_left fun j hj => by
            have := List.mem_range.mp hj
            show f j = if j = i then y else f j
            rw [if_neg (by omega)]
        · show [y] = [if i = i then y else f i]
          rw [if_pos rfl]
      · by_cases ej : j = i
        · subst ej
          show R j (if j = j then y else f j)
          rw [if_pos rfl]; exact hy
        · show R j (if j = i then y else f j)
          rw [if_neg ej]; exact h3 j (by omega)
  exact go n (fun _ => .non) [] 0 (by omega) rfl (fun j hj => absurd hj (by omega))
end
theorem at_rng {f : Nat → D} {n i : Nat} (h : i < n) : atI ((List.range n).map f) (i : Int) = some (f i) := at_map (by rw [List.getElem?_range h])
theorem l_tab {n i : Nat} {x : Nat → Nat → D} {Q : DV → Prop} (h : i < n) (q : Q (.d (rowX n (x i)))) : ixR (.d (tabX n x)) (.d (.int (i : Int))) Q := l_ixL (ds := (List.range n).map fun i => rowX n (x i)) rfl (at_rng h) q
theorem l_row {n i : Nat} {x : Nat → D} {Q : DV → Prop} (h : i < n) (q : Q (.d (x i))) : ixR (.d (rowX n x)) (.d (.int (i : Int))) Q := l_ixL (ds := (List.range n).map x) rfl (at_rng h) q
theorem tab_len {n : Nat} {x : Nat → Nat → D} {Q : DV → Prop} (q : Q (.d (.int (n : Int)))) : lenR [.d (tabX n x)] Q := l_lenL (ds := (List.range n).map fun i => rowX n (x i)) rfl (by rw [List.length_map, List.length_range]; exact q)
/-! ### names with places -/
def nmD (ks : List Str) (pl : Str → Nat) : List (Key × D) := ks.map fun z => (Sum.inr z, .int (pl z))
theorem nmD_keys (ks : List Str) (pl : Str → Nat) : (nmD ks pl).map (·.1) = ks.map Sum.inr := by unfold nmD; rw [List.map_map]; rfl
theorem nmD_val {ks : List Str} {pl : Str → Nat} {z : Str} : valD (nmD ks pl) (.inr z) = if z ∈ ks then some (.int (pl z)) else none := by
  induction ks with
  | nil => rfl
  | cons y r ih =>
    show valD ((Sum.inr y, D.int (pl y)) :: nmD r pl) (.inr z) = _
    by_cases e : y = z
    · subst e
      rw [valD_pos rfl, if_pos (List.mem_cons_self ..)]
    · rw [valD_neg (fun h => e (Sum.inr.inj h)), ih]
      by_cases m : z ∈ r
      · rw [if_pos m, if_pos (List.mem_cons_of_mem _ m)]
      · rw [if_neg m, if_neg (fun h => by rcases List.mem_cons.mp h with h | h; exact e h.symm; exact m h)]
theorem putKD_new {kvs : List (Key × D)} {k : Key} {d : D} (h : valD kvs k = none) : putKD kvs k d = kvs ++ [(k, d)] := by
  unfold putKD
  rw [if_neg]
  intro z
  obtain ⟨p, hp, e⟩ := List.any_eq_true.mp z
  have : ∀ l : List (Key × D), p ∈ l → valD l k ≠ none := by
    intro l
    induction l with
    | nil => intro h; cases h
    | cons q r ih =>
      intro h
      by_cases e2 : q.1 = k
      · rw [valD_pos e2]; simp
      · rw [valD_neg e2]
        rcases List.mem_cons.mp h with h | h
        · subst h; exact absurd (of_decide_eq_true e) e2
        · exact ih h
  exact this kvs hp h
theorem merge_nm (pl : Str → Nat) : ∀ (ks done : List Str), (done ++ ks).Nodup → mergeD (nmD done pl) (nmD ks pl) = nmD (done ++ ks) pl
  | [], done, _ => by rw [List.append_nil]; rfl
  | z :: r, done, h => by
    show mergeD (putKD (nmD done pl) (.inr z) (.int (pl z))) (nmD r pl) = _
    have nz : z ∉ done := fun m => by
      have := List.nodup_append.mp h
      exact this.2.2 z m z (List.mem_cons_self ..) rfl
    rw [putKD_new (by rw [nmD_val, if_neg nz])]
    have e : nmD done pl ++ [(Sum.inr z, D.int (pl z))] = nmD (done ++ [z]) pl := by unfold nmD; rw [List.map_append]; rfl
    rw [e, merge_nm pl r (done ++ [z]) (by rw [List.append_assoc]; exact h), List.append_assoc]; rfl
theorem pairs_nm (pl : Str → Nat) : ∀ ks : List Str, pairsD (ks.map fun z => D.tup [.str z, .int (pl z)]) = some (nmD ks pl)
  | [] => rfl
  | z :: r => by
    show pairsD (D.tup [.str z, .int (pl z)] :: r.map fun z => D.tup [.str z, .int (pl z)]) = _
    unfold pairsD
    rw [pairs_nm pl r]; rfl
def rOfD (d : D) : D := match ratOf d with
  | some q => rD q
  | none => d
theorem at_get {xs : List D} {i : Nat} {x : D} (h : xs[i]? = some x) : atI xs (i : Int) = some x := by
  have := at_map (f := fun d : D => d) h
  rw [List.map_id'] at this
  exact this
theorem at_zero {xs : List D} {x : D} : atI (x :: xs) 0 = some x := at_get (i := 0) rfl
/-! ### words cut and put together -/
theorem wd_app (a b : List Nat) : wd a ++ wd b = wd (a ++ b) := by
  show (⟨a.toArray ++ b.toArray⟩ : Str) = ⟨(a ++ b).toArray⟩
  simp
theorem cutS_take {cs : List Nat} {k : Nat} (h : k ≤ cs.length) : cutS (wd cs) none (some (k : Int)) = wd (cs.take k) := by
  have l : (wd cs).length = cs.length := wd_len cs
  unfold cutS
  have e1 : HT.sIx (wd cs).length 0 none = 0 := rfl
  have e2 : HT.sIx (wd cs).length (wd cs).length (some (k : Int)) = k := by rw [HT.sIx_nat, l]; omega
  rw [e1, e2]
  show (⟨((cs.toArray.toList.drop 0).take (k - 0)).toArray⟩ : Str) = ⟨(cs.take k).toArray⟩
  simp
theorem cutS_drop {cs : List Nat} {k : Nat} (h : k ≤ cs.length) : cutS (wd cs) (some (k : Int)) none = wd (cs.drop k) := by
  have l : (wd cs).length = cs.length := wd_len cs
  unfold cutS
  have e1 : HT.sIx (wd cs).length (wd cs).length none = cs.length := l
  have e2 : HT.sIx (wd cs).length 0 (some (k : Int)) = k := by rw [HT.sIx_nat, l]; omega
  rw [e1, e2]
  show (⟨((cs.toArray.toList.drop k).take (cs.length - k)).toArray⟩ : Str) = ⟨(cs.drop k).toArray⟩
  have e3 : (cs.drop k).take (cs.length - k) = cs.drop k := List.take_of_length_le (by rw [List.length_drop]; omega)
  simp [e3]
theorem name_wd {l : List Nat} (h1 : 1 ≤ l.length) (h5 : l.length ≤ 5) (h : ∀ c ∈ l, low c = true) : nameOk (wd l) = true := by
  unfold nameOk
  rw [wd_len, decide_eq_true h1, decide_eq_true h5]
  show (l.toArray.toList.all low) = true
  rw [List.all_eq_true]
  intro c hc
  exact h c (by simpa using hc)
theorem wd_inj {a b : List Nat} (h : wd a = wd b) : a = b := by
  have := congrArg (fun z : Str => z.cps.toList) h
  simpa using this
theorem cut_take' {α : Type} {xs : List α} {k : Nat} : cut xs none (some (k : Int)) = xs.take k := by
  unfold cut
  have e1 : HT.sIx xs.length 0 none = 0 := rfl
  have e2 : HT.sIx xs.length xs.length (some (k : Int)) = min k xs.length := HT.sIx_nat _ _ _
  rw [e1, e2, List.drop_zero, Nat.sub_zero]
  rcases Nat.le_total k xs.length with h | h
  · rw [Nat.min_eq_left h]
  · rw [Nat.min_eq_right h, List.take_of_length_le (Nat.le_refl _), List.take_of_length_le h]
/-- from trees back to what they stand for -/
theorem back_map {α : Type} {f : α → D} {P : α → Prop} : ∀ {es : List D}, (∀ x ∈ es, ∃ a, x = f a ∧ P a) → ∃ as : List α, es = as.map f ∧ ∀ a ∈ as, P a
  | [], _ => ⟨[], rfl, fun _ h => by cases h⟩
  | x :: r, h => by
    obtain ⟨a, rfl, ha⟩ := h x (List.mem_cons_self ..)
    obtain ⟨as, rfl, h2⟩ := back_map (es := r) fun y hy => h y (List.mem_cons_of_mem _ hy)
    refine ⟨a :: as, rfl, fun z hz => ?_⟩
    rcases List.mem_cons.mp hz with rfl | hz
    · exact ha
    · exact h2 z hz
theorem nodup_back {α : Type} {f : α → D} {as : List α} (h : (as.map f).Nodup) : as.Nodup := by
  induction as with
  | nil => exact List.nodup_nil
  | cons a r ih =>
    rw [List.map_cons, List.nodup_cons] at h
    rw [List.nodup_cons]
    exact ⟨fun m => h.1 (List.mem_map.mpr ⟨a, m, rfl⟩), ih h.2⟩
theorem nodup_map {α β : Type} {f : α → β} (inj : ∀ a b, f a = f b → a = b) {as : List α} (h : as.Nodup) : (as.map f).Nodup := by
  induction as with
  | nil => exact List.nodup_nil
  | cons a r ih =>
    rw [List.nodup_cons] at h
    rw [List.map_cons, List.nodup_cons]
    refine ⟨fun m => ?_, ih h.2⟩
    obtain ⟨b, hb, e⟩ := List.mem_map.mp m
    exact h.1 (inj b a e ▸ hb)
theorem ints_nodup : ∀ (n : Nat) (lo : Int), (intsFrom lo n).Nodup
  | 0, _ => List.nodup_nil
  | n + 1, lo => by
    show (D.int lo :: intsFrom (lo + 1) n).Nodup
    rw [List.nodup_cons]
    refine ⟨fun m => ?_, ints_nodup n (lo + 1)⟩
    obtain ⟨i, _, e⟩ := mem_ints m
    injection e with e
    omega
theorem mk_pl : ∀ (ks : List Str) (qs : List Nat), ks.Nodup → ks.length ≤ qs.length → ∃ pl : Str → Nat, ∀ (k : Nat) (z : Str), ks[k]? = some z → qs[k]? = some (pl z)
  | [], _, _, _ => ⟨fun _ => 0, fun k z h => by simp at h⟩
  | y :: r, [], _, h => by simp at h
  | y :: r, q :: s, nd, h => by
    rw [List.nodup_cons] at nd
    obtain ⟨pl, hp⟩ := mk_pl r s nd.2 (by simpa using h)
    refine ⟨fun z => if z = y then q else pl z, fun k z hk => ?_⟩
    match k, hk with
    | 0, hk =>
      have e : y = z := by simpa using hk
      subst e
      show some q = some (if y = y then q else pl y)
      rw [if_pos rfl]
    | k + 1, hk =>
      have hk' : r[k]? = some z := by simpa using hk
      have ne : z ≠ y := fun e => nd.1 (e ▸ List.mem_of_getElem? hk')
      have : s[k]? = some (pl z) := hp k z hk'
      show (q :: s)[k + 1]? = some (if z = y then q else pl z)
      rw [if_neg ne]
      simpa using this
theorem rng_get {α : Type} {xs : List α} {g : Nat → D} {f : α → D} (h : ∀ (k : Nat) (x : α), xs[k]? = some x → g k = f x) : (List.range xs.length).map g = xs.map f := by
  refine List.ext_getElem? fun k => ?_
  rw [List.getElem?_map, List.getElem?_map]
  rcases Nat.lt_or_ge k xs.length with hk | hk
  · rw [List.getElem?_range hk, List.getElem?_eq_getElem hk]
    show some (g k) = some (f xs[k])
    rw [h k xs[k] (List.getElem?_eq_getElem hk)]
  · rw [List.getElem?_eq_none (by rw [List.length_range]; exact hk), List.getElem?_eq_none hk]; rfl
end DL

set_option Elab.async false
set_option linter.all false
set_option maxRecDepth 100000
set_option autoImplicit false
set_option maxHeartbeats 2000000
/-! words in order; dicts from names to any values; places refused -/
namespace DL
open PySem PySem.Spec PyProof.Rows L2
def leS (a b : Str) : Prop := ltCps b.cps.toList a.cps.toList = false
theorem leS_iff {a b : Str} : leS a b ↔ a.cps.toList ≤ b.cps.toList := by
  unfold leS
  rw [ltCps_eq]
  rw [decide_eq_false_iff_not, List.not_lt]
theorem leS_refl (a : Str) : leS a a := leS_iff.mpr (List.le_refl _)
theorem leS_trans {a b c : Str} (h : leS a b) (h2 : leS b c) : leS a c := leS_iff.mpr (List.le_trans (leS_iff.mp h) (leS_iff.mp h2))
theorem leS_anti {a b : Str} (h : leS a b) (h2 : leS b a) : a = b := by
  have e := List.le_antisymm (leS_iff.mp h) (leS_iff.mp h2)
  cases a with | mk x => cases b with | mk y =>
  have : x = y := Array.toList_inj.mp e
  rw [this]
theorem rising_pw : ∀ (p : Str) (l : List Str), risingS p l = true → (p :: l).Pairwise leS
  | p, [], _ => List.pairwise_singleton ..
  | p, x :: r, h => by
    have h0 : (!ltCps x.cps.toList p.cps.toList && risingS x r) = true := h
    rw [Bool.and_eq_true] at h0
    have h1 : leS p x := by unfold leS; simpa using h0.1
    have h2 := rising_pw x r h0.2
    refine List.pairwise_cons.mpr ⟨fun y hy => ?_, h2⟩
    rcases List.mem_cons.mp hy with rfl | hy
    · exact h1
    · exact leS_trans h1 ((List.pairwise_cons.mp h2).1 y hy)
theorem sorted_pw {l : List Str} (h : sortedS l = true) : l.Pairwise leS := by
  cases l with
  | nil => exact .nil
  | cons x r => exact rising_pw x r h
theorem pw_perm : ∀ {a b : List Str}, a.Pairwise leS → b.Pairwise leS → a.Perm b → a = b
  | [], b, _, _, h => (List.nil_perm.mp h).symm ▸ rfl
  | x :: r, [], _, _, h => by have := h.length_eq; simp at this
  | x :: r, y :: t, h1, h2, h => by
    obtain ⟨p1, p2⟩ := List.pairwise_cons.mp h1
    obtain ⟨q1, q2⟩ := List.pairwise_cons.mp h2
    have e : x = y := by
      refine leS_anti ?_ ?_
      · rcases List.mem_cons.mp (h.mem_iff.mpr (List.mem_cons_self ..) : y ∈ x :: r) with e | m
        · rw [e]; exact leS_refl _
        · exact p1 y m
      · rcases List.mem_cons.mp (h.mem_iff.mp (List.mem_cons_self ..) : x ∈ y :: t) with e | m
        · rw [e]; exact leS_refl _
        · exact q1 x m
    subst e
    rw [pw_perm p2 q2 ((List.perm_cons x).mp h)]
theorem sorted_eq {a b : List Str} (h1 : sortedS a = true) (h2 : sortedS b = true) (h : a.Perm b) : a = b := pw_perm (sorted_pw h1) (sorted_pw h2) h
/-- the first of a kind -/
theorem find_filter {α : Type} (p : α → Bool) (l : List α) : l.find? p = (l.filter p).head? := by
  induction l with
  | nil => rfl
  | cons x r ih =>
    cases e : p x with
    | true => rw [List.find?_cons_of_pos e, List.filter_cons_of_pos e]; rfl
    | false => rw [List.find?_cons_of_neg (by rw [e]; simp), List.filter_cons_of_neg (by rw [e]; simp), ih]
theorem first_least {p : Str → Bool} {ys zs : List Str} (h1 : sortedS ys = true) (h2 : sortedS zs = true) (h : (ys.filter p).Perm zs) : ys.find? p = zs.head? := by
  rw [find_filter, pw_perm ((sorted_pw h1).sublist List.filter_sublist) (sorted_pw h2) h]
/-! ### dicts from names -/
def kvD (ks : List Str) (val : Str → D) : List (Key × D) := ks.map fun z => (Sum.inr z, val z)
theorem kvD_keys (ks : List Str) (val : Str → D) : (kvD ks val).map (·.1) = ks.map Sum.inr := by unfold kvD; rw [List.map_map]; rfl
theorem kvD_len (ks : List Str) (val : Str → D) : (kvD ks val).length = ks.length := by unfold kvD; rw [List.length_map]
theorem kvD_val {ks : List Str} {val : Str → D} {z : Str} : valD (kvD ks val) (.inr z) = if z ∈ ks then some (val z) else none := by
  induction ks with
  | nil => rfl
  | cons y r ih =>
    show valD ((Sum.inr y, val y) :: kvD r val) (.inr z) = _
    by_cases e : y = z
    · subst e
      rw [valD_pos rfl, if_pos (List.mem_cons_self ..)]
    · rw [valD_neg (fun h => e (Sum.inr.inj h)), ih]
      by_cases m : z ∈ r
      · rw [if_pos m, if_pos (List.mem_cons_of_mem _ m)]
      · rw [if_neg m, if_neg (fun h => by rcases List.mem_cons.mp h with h | h; exact e h.symm; exact m h)]
theorem kvD_congr {ks : List Str} {v w : Str → D} (h : ∀ z ∈ ks, v z = w z) : kvD ks v = kvD ks w := by
  unfold kvD
  exact List.map_congr_left fun z hz => by rw [h z hz]
theorem kvD_app (a b : List Str) (val : Str → D) : kvD (a ++ b) val = kvD a val ++ kvD b val := by unfold kvD; rw [List.map_append]
theorem merge_kv (val : Str → D) : ∀ (ks done : List Str), (done ++ ks).Nodup → mergeD (kvD done val) (kvD ks val) = kvD (done ++ ks) val
  | [], done, _ => by rw [List.append_nil]; rfl
  | z :: r, done, h => by
    show mergeD (putKD (kvD done val) (.inr z) (val z)) (kvD r val) = _
    have nz : z ∉ done := fun m => by
      have := List.nodup_append.mp h
      exact this.2.2 z m z (List.mem_cons_self ..) rfl
    rw [putKD_new (by rw [kvD_val, if_neg nz])]
    have e : kvD done val ++ [(Sum.inr z, val z)] = kvD (done ++ [z]) val := by unfold kvD; rw [List.map_append]; rfl
    rw [e, merge_kv val r (done ++ [z]) (by rw [List.append_assoc]; exact h), List.append_assoc]; rfl
theorem merge_kv0 {ks : List Str} (val : Str → D) (h : ks.Nodup) : mergeD [] (kvD ks val) = kvD ks val := merge_kv val ks [] h
theorem pairs_kv (val : Str → D) : ∀ ks : List Str, pairsD (ks.map fun z => D.tup [.str z, val z]) = some (kvD ks val)
  | [] => rfl
  | z :: r => by
    show pairsD (D.tup [.str z, val z] :: r.map fun z => D.tup [.str z, val z]) = _
    unfold pairsD
    rw [pairs_kv val r]; rfl
/-- the first place that is none or is taken -/
def plF (val : Str → D) (n : Nat) : List D → List Str → Option D
  | _, [] => none
  | tk, z :: r => if numD 0 ((n : Int) - 1) (val z) && !inF (val z) tk then plF val n (tk ++ [val z]) r else some (val z)
theorem plF_pos {val : Str → D} {n : Nat} {tk : List D} {z : Str} {r : List Str} (h1 : numD 0 ((n : Int) - 1) (val z) = true) (h2 : inF (val z) tk = false) : plF val n tk (z :: r) = plF val n (tk ++ [val z]) r := by
  show (if numD 0 ((n : Int) - 1) (val z) && !inF (val z) tk then plF val n (tk ++ [val z]) r else some (val z)) = _
  rw [h1, h2]; rfl
theorem plF_neg {val : Str → D} {n : Nat} {tk : List D} {z : Str} {r : List Str} (h : numD 0 ((n : Int) - 1) (val z) = false ∨ inF (val z) tk = true) : plF val n tk (z :: r) = some (val z) := by
  show (if numD 0 ((n : Int) - 1) (val z) && !inF (val z) tk then plF val n (tk ++ [val z]) r else some (val z)) = _
  rcases h with h | h <;> rw [h]
  · rfl
  · rw [Bool.not_true, Bool.and_false]; rfl
theorem plF_good {pl : Str → Nat} {n : Nat} : ∀ (ys dn : List Str), (dn ++ ys).Nodup → (∀ z ∈ dn ++ ys, pl z < n) → (∀ z ∈ dn ++ ys, ∀ y ∈ dn ++ ys, pl z = pl y → z = y) → plF (fun z => .int (pl z)) n (dn.map fun z => D.int (pl z)) ys = none
  | [], _, _, _, _ => rfl
  | z :: r, dn, hn, hl, hi => by
    have mz : z ∈ dn ++ z :: r := by simp
    have lz := hl z mz
    have e3 : numD 0 ((n : Int) - 1) (.int (pl z)) = true := by
      show (decide ((0 : Int) ≤ (pl z : Nat)) && decide (((pl z : Nat) : Int) ≤ (n : Int) - 1)) = true
      rw [decide_eq_true (by omega), decide_eq_true (by omega)]; rfl
    have nz : z ∉ dn := fun m => (List.nodup_append.mp hn).2.2 z m z (List.mem_cons_self ..) rfl
    have e5 : inF (.int (pl z)) (dn.map fun y => D.int (pl y)) = false := by
      unfold inF
      rw [List.any_map, List.any_eq_false]
      intro y hy c
      have e6 : ((pl y : Nat) : Int) = (pl z : Nat) := eq_of_beq (show (((pl y : Nat) : Int) == ((pl z : Nat) : Int)) = true from c)
      exact nz ((hi y (by simp [hy]) z mz (by omega)) ▸ hy)
    have ea : dn ++ z :: r = (dn ++ [z]) ++ r := by simp
    rw [plF_pos e3 e5]
    have := plF_good r (dn ++ [z]) (ea ▸ hn) (ea ▸ hl) (ea ▸ hi)
    rw [List.map_append] at this
    exact this
/-! ### written dicts, locked at once -/
theorem lit_pairs (σ : L2.St) (Q : List (V × V) → Hp → Prop) : ∀ (cs : List (Str × Int)) (H : Hp) (hq : Q (cs.map fun c => (V.str c.1, V.int c.2)) H), tPairs (cs.map fun c => (tC (.str c.1), tC (.int c.2))) σ H Q := by
  intro cs
  induction cs generalizing Q with
  | nil => intro H hq; exact hq
  | cons c r ih => intro H hq; exact ih _ H hq
theorem fall_ints {K : PySem.W.Frag} {G : Hp} : ∀ cs : List (Str × Int), FAll K G (cs.map fun c => ((Sum.inr c.1 : Key), V.int c.2)) (cs.map fun c => ((Sum.inr c.1 : Key), D.int c.2))
  | [] => .nil
  | c :: r => .cons (.int _) (fall_ints r)
theorem de_dlit {X : Cx} {W : WX} {pos : Pos} {keys : List (Option Expr)} {values : List Expr} {cs : List (Str × Int)} (h : PPs X pos keys values (cs.map fun c => (tC (.str c.1), tC (.int c.2)))) (hall : keys.all (·.isSome) = true) (hl : keys.length = values.length) (h0 : keys ≠ []) (h15 : keys.length ≤ 15) (c15 : cs.length ≤ 15) (hm : mergeD [] (cs.map fun c => ((Sum.inr c.1 : Key), D.int c.2)) = cs.map fun c => ((Sum.inr c.1 : Key), D.int c.2)) :
    DE X W (.Dict keys values pos) (dC (.dk (cs.map fun c => ((Sum.inr c.1 : Key), D.int c.2)))) := by
  refine pe_imp (pe_retL (pe_disp h hall hl h0 h15)) fun σ H R ⟨G, so, sl, Q, E, rep, q, hq, hx⟩ p n => ?_
  refine lit_pairs σ _ cs _ ⟨upd_same, cs.map fun c => ((Sum.inr c.1 : Key), V.int c.2), by rw [List.map_map]; rfl, by rw [List.length_map]; exact c15, p, _, upd_same, trivial, fun od => ?_⟩
  rw [upd_upd, upd_upd]
  have gl : G p = none := rep.h.ex.free n
  have sl' : so.Nt p := rep.h.there n
  have fa := FAll.merge (fall_ints (K := X.K) (G := G) cs) .nil
  rw [hm] at fa
  refine hq _ _ (upd G p _) (.d (.dk _)) sl ((Post.refl rep).thenV ⟨Ex.new gl, hrep_lock rep.h gl sl', fun b o eb sb => ?_, fun b n1 g sb => ?_, .dk upd_same (fa.mono (Ex.new gl)), fun _ _ z => (nomatch z), fun _ z => (nomatch z)⟩) q
  · rw [upd_ne (ne_of_none eb n)]; exact eb
  · rw [upd_ne (fun z => n1 (by rw [z]; exact n))]; exact g
theorem de_dnil {X : Cx} {W : WX} {pos : Pos} : DE X W (.Dict [] [] pos) (dC (.dk [])) := by
  refine pe_imp (pe_retL pe_dnewK) fun σ H R ⟨G, so, sl, Q, E, rep, q, hq, hx⟩ p n => ⟨p, _, upd_same, trivial, fun od => ?_⟩
  rw [upd_upd]
  have gl : G p = none := rep.h.ex.free n
  have sl' : so.Nt p := rep.h.there n
  refine hq _ _ (upd G p _) (.d (.dk _)) sl ((Post.refl rep).thenV ⟨Ex.new gl, hrep_lock rep.h gl sl', fun b o eb sb => ?_, fun b n1 g sb => ?_, .dk upd_same .nil, fun _ _ z => (nomatch z), fun _ z => (nomatch z)⟩) q
  · rw [upd_ne (ne_of_none eb n)]; exact eb
  · rw [upd_ne (fun z => n1 (by rw [z]; exact n))]; exact g
end DL

set_option Elab.async false
set_option linter.all false
set_option maxRecDepth 100000
set_option autoImplicit false
set_option maxHeartbeats 2000000
/-! dicts of whole numbers compared -/
namespace DL
open PySem PySem.Spec PyProof.Rows L2
def intsV (ks : List (Key × V)) : Prop := ∀ p ∈ ks, ∃ i : Int, p.2 = V.int i
def hitV (ls : List (Key × V)) (p : Key × V) : Bool := match p.2, valV ls p.1 with
  | .int i, some (.int j) => i == j
  | _, _ => false
theorem valV_mem {k : Key} {v : V} : ∀ {ls : List (Key × V)}, valV ls k = some v → ∃ p ∈ ls, p.2 = v
  | [], h => by cases h
  | q :: r, h => by
    by_cases e : q.1 = k
    · rw [valV_pos e] at h
      exact ⟨q, List.mem_cons_self .., Option.some.inj h⟩
    · rw [valV_neg e] at h
      obtain ⟨p, hp, e2⟩ := valV_mem h
      exact ⟨p, List.mem_cons_of_mem _ hp, e2⟩
theorem hits_int {A : Around} {s : Shared} {ls : List (Key × V)} {vb : List (Key × Value)} (rb : KV ls vb) (il : intsV ls) {ks : List (Key × V)} {va : List (Key × Value)} (ra : KV ks va) : intsV ks → PySem.W.KeqHits A s vb va (ks.all (hitV ls)) := by
  unfold KV at ra
  induction ra with
  | nil => intro _; exact .nil
  | @cons p q ps qs h t ih =>
    intro hp
    obtain ⟨h1, h2⟩ := h
    obtain ⟨i, e⟩ := hp p List.mem_cons_self
    have ih' := ih fun p' hm => hp p' (List.mem_cons_of_mem _ hm)
    obtain ⟨k, v⟩ := q
    have h1' : p.1 = k := h1
    rw [List.all_cons]
    cases z : valV ls p.1 with
    | none =>
      have rr : RelO none (valueAt vb p.1) := by rw [← z]; exact rb.val p.1
      have hn := RelO.none_of rr
      rw [h1'] at hn
      have e2 : hitV ls p = false := by unfold hitV; rw [e, z]
      rw [e2, Bool.false_and]
      exact .miss hn
    | some y =>
      obtain ⟨p2, m2, e2⟩ := valV_mem z
      obtain ⟨j, ej⟩ := il p2 m2
      rw [ej] at e2
      subst e2
      have rr : RelO (some (.int j)) (valueAt vb p.1) := by rw [← z]; exact rb.val p.1
      obtain ⟨w, hw, rw'⟩ := rr.some_of
      obtain ⟨t2, rfl⟩ := (show ∃ t, w = Value.int j t from rw')
      rw [e] at h2
      obtain ⟨t1, e3⟩ := (show ∃ t, v = Value.int i t from h2)
      subst e3
      rw [h1'] at hw
      have e4 : hitV ls p = (i == j) := by unfold hitV; rw [e, z]
      rw [e4]
      exact .hit hw (SeqAt.EqAt.int_int i t1 j t2) ih'
def eqV (ks ls : List (Key × V)) : Bool := ks.length == ls.length && ks.all (hitV ls)
def rDI (neg : Bool) : R2 := fun x y H Q => ∃ a b ks ls, x = .ref a ∧ y = .ref b ∧ Rd H a (.dK ks) ∧ Rd H b (.dK ls) ∧ intsV ks ∧ intsV ls ∧ Q (.bl (if neg then !eqV ks ls else eqV ks ls)) H
theorem op_eqDI {X : Cx} (hu : X.A.units < cLine) : OpR X (compareOp .Eq) (rDI false) := by
  intro pins s σ H x y v u Q I rx ry h
  obtain ⟨a, b, ks, ls, rfl, rfl, ea, eb, ik, il, q⟩ := h
  obtain rfl : v = Value.ref a := rx
  obtain rfl : u = Value.ref b := ry
  obtain ⟨_, ya, va, ra, da⟩ := dk_rd I.hok ea
  obtain ⟨_, yb, vb, rb, db⟩ := dk_rd I.hok eb
  exact PySem.W.keq_eq (knd := mixKind X.prog X.w) (r := ks.all (hitV ls)) ya yb da db hu (fun _ => hits_int rb il ra ik) (fin_bl I q (by rw [← ra.length, ← rb.length]; rfl))
theorem op_neDI {X : Cx} (hu : X.A.units < cLine) : OpR X (compareOp .NotEq) (rDI true) := by
  intro pins s σ H x y v u Q I rx ry h
  obtain ⟨a, b, ks, ls, rfl, rfl, ea, eb, ik, il, q⟩ := h
  obtain rfl : v = Value.ref a := rx
  obtain rfl : u = Value.ref b := ry
  obtain ⟨_, ya, va, ra, da⟩ := dk_rd I.hok ea
  obtain ⟨_, yb, vb, rb, db⟩ := dk_rd I.hok eb
  exact PySem.W.keq_ne (knd := mixKind X.prog X.w) (r := ks.all (hitV ls)) ya yb da db hu (fun _ => hits_int rb il ra ik) (fin_bl I q (by rw [← ra.length, ← rb.length]; rfl))
/-! on trees -/
def intsD (ks : List (Key × D)) : Prop := ∀ p ∈ ks, ∃ i : Int, p.2 = D.int i
def hitD (ls : List (Key × D)) (p : Key × D) : Bool := match p.2, valD ls p.1 with
  | .int i, some (.int j) => i == j
  | _, _ => false
def eqKD (ks ls : List (Key × D)) : Bool := ks.length == ls.length && ks.all (hitD ls)
theorem FAll.ints {K : PySem.W.Frag} {G : Hp} : ∀ {vs : List (Key × V)} {kvs : List (Key × D)}, FAll K G vs kvs → intsD kvs → intsV vs
  | _, _, .nil, _ => fun p h => by cases h
  | _, _, .cons d t, h => fun p hp => by
    rcases List.mem_cons.mp hp with rfl | hp
    · obtain ⟨i, e⟩ := h _ (List.mem_cons_self ..)
      dsimp only at e
      subst e
      cases d with
      | int => exact ⟨i, rfl⟩
    · exact FAll.ints t (fun q hq => h q (List.mem_cons_of_mem _ hq)) p hp
theorem FAll.hits {K : PySem.W.Frag} {G : Hp} {ls : List (Key × V)} {lds : List (Key × D)} (fl : FAll K G ls lds) (il : intsD lds) : ∀ {vs : List (Key × V)} {kvs : List (Key × D)}, FAll K G vs kvs → intsD kvs → vs.all (hitV ls) = kvs.all (hitD lds)
  | _, _, .nil, _ => rfl
  | _, _, .cons (x := x) d t, h => by
    rw [List.all_cons, List.all_cons, FAll.hits fl il t (fun q hq => h q (List.mem_cons_of_mem _ hq))]
    refine congrArg (· && _) ?_
    obtain ⟨i, e⟩ := h _ (List.mem_cons_self ..)
    dsimp only at e
    subst e
    cases d with
    | int =>
      unfold hitV hitD
      dsimp only
      cases z : valD lds x with
      | none => rw [fl.valN z]
      | some y =>
        obtain ⟨v, e1, e2⟩ := fl.valS z
        have iy : ∃ j : Int, y = .int j := by
          have : ∀ l : List (Key × D), intsD l → valD l x = some y → ∃ j : Int, y = .int j := by
            intro l
            induction l with
            | nil => intro _ h; cases h
            | cons q r ih =>
              intro hi hv
              by_cases e : q.1 = x
              · rw [valD_pos e] at hv
                obtain ⟨j, ej⟩ := hi q (List.mem_cons_self ..)
                exact ⟨j, by rw [← Option.some.inj hv]; exact ej⟩
              · rw [valD_neg e] at hv
                exact ih (fun p hp => hi p (List.mem_cons_of_mem _ hp)) hv
          exact this lds il z
        obtain ⟨j, rfl⟩ := iy
        cases e2 with
        | int => rw [e1]
@[irreducible] def eqDR (neg : Bool) (x y : DV) (Q : DV → Prop) : Prop := match x.dkv, y.dkv with
  | some ks, some ls => intsD ks ∧ intsD ls ∧ Q (.d (.bl (if neg then !eqKD ks ls else eqKD ks ls)))
  | _, _ => False
theorem l_eqDk {n : Bool} {x y : DV} {ks ls : List (Key × D)} {Q : DV → Prop} (h1 : x.dkv = some ks) (h2 : y.dkv = some ls) (i1 : intsD ks) (i2 : intsD ls) (q : Q (.d (.bl (if n then !eqKD ks ls else eqKD ks ls)))) : eqDR n x y Q := by
  unfold eqDR
  rw [h1, h2]
  exact ⟨i1, i2, q⟩
theorem sem_eqDk {K : PySem.W.Frag} {n : Bool} : OpSem K (rDI n) (eqDR n) := by
  intro G so H x y dx dy Q R h wx wy q hq
  unfold eqDR at q
  split at q
  · rename_i ks ls e1 e2
    obtain ⟨i1, i2, q⟩ := q
    obtain ⟨a, vs, rfl, ra, fa⟩ := VOk.dkr h wx e1
    obtain ⟨b, ws, rfl, rb, fb⟩ := VOk.dkr h wy e2
    refine ⟨a, b, vs, ws, rfl, rfl, ra, rb, fa.ints i1, fb.ints i2, ?_⟩
    have e : eqV vs ws = eqKD ks ls := by
      unfold eqV eqKD
      rw [fa.len, fb.len, fb.hits i2 fa i1]
    rw [e]
    exact hq _ H G _ (.dat h (.bl _)) q
  · exact q.elim
end DL

set_option Elab.async false
set_option linter.all false
set_option maxRecDepth 100000
set_option autoImplicit false
set_option maxHeartbeats 2000000
/-! ratios over one bottom -/
namespace DL
open PySem PySem.Spec PyProof.Rows L2
def Ln (L B : Nat) (q : Rat) : Prop := ∃ a : Nat, q = mkRat (a : Int) L ∧ a ≤ B
theorem Ln.mono {L B C : Nat} {q : Rat} (h : Ln L B q) (le : B ≤ C) : Ln L C q := let ⟨a, e, l⟩ := h; ⟨a, e, Nat.le_trans l le⟩
theorem Ln.add {L B C : Nat} {p q : Rat} (hL : L ≠ 0) (h : Ln L B p) (h2 : Ln L C q) : Ln L (B + C) (p + q) := by
  obtain ⟨a, rfl, ha⟩ := h
  obtain ⟨b, rfl, hb⟩ := h2
  refine ⟨a + b, ?_, by omega⟩
  rw [Rat.mkRat_add_mkRat _ _ hL hL, ← Int.add_mul, Rat.mkRat_mul_right hL]
  rfl
theorem Ln.mul {L M B C : Nat} {p q : Rat} (h : Ln L B p) (h2 : Ln M C q) : Ln (L * M) (B * C) (p * q) := by
  obtain ⟨a, rfl, ha⟩ := h
  obtain ⟨b, rfl, hb⟩ := h2
  refine ⟨a * b, ?_, Nat.mul_le_mul ha hb⟩
  rw [Rat.mkRat_mul_mkRat]
  rfl
theorem Ln.up {L M B : Nat} {q : Rat} (hM : M ≠ 0) (h : Ln L B q) : Ln (L * M) (B * M) q := by
  obtain ⟨a, rfl, ha⟩ := h
  refine ⟨a * M, ?_, Nat.mul_le_mul ha (Nat.le_refl _)⟩
  rw [Int.natCast_mul, Rat.mkRat_mul_right hM]
theorem Ln.nb {L B k : Nat} {q : Rat} (hL : L ≠ 0) (h : Ln L B q) (h1 : B < 2 ^ k) (h2 : L < 2 ^ k) : Nb k q := by
  obtain ⟨a, rfl, ha⟩ := h
  refine ⟨?_, ?_⟩
  · rw [Rat.num_mkRat]
    split
    · exact Nat.pow_pos (by decide)
    · refine Nat.lt_of_le_of_lt ?_ h1
      refine Nat.le_trans ?_ ha
      have : ((a : Int) / ((L.gcd (a : Int).natAbs : Nat) : Int)).natAbs ≤ a := by
        rw [Int.natAbs_natCast, ← Int.natCast_ediv, Int.natAbs_natCast]
        exact Nat.div_le_self ..
      exact this
  · rw [Rat.den_mkRat, if_neg hL]
    exact Nat.lt_of_le_of_lt (Nat.div_le_self ..) h2
theorem Ln.nn {L B : Nat} {q : Rat} (h : Ln L B q) : 0 ≤ q := by
  obtain ⟨a, rfl, ha⟩ := h
  rw [← Rat.num_nonneg, Rat.num_mkRat]
  split
  · decide
  · exact Int.ediv_nonneg (by omega) (by omega)
theorem ln_zero {L B : Nat} : Ln L B 0 := ⟨0, (Rat.zero_mkRat L).symm, Nat.zero_le _⟩
theorem ln_least {L B : Nat} {p q : Rat} (h : Ln L B p) (h2 : Ln L B q) : Ln L B (leastQ p q) := by
  unfold leastQ
  split
  · exact h2
  · exact h
theorem close_ln {L B n : Nat} {f : Nat → Nat → Rat} (hL : L ≠ 0) (h : ∀ i j, i < n → j < n → Ln L B (f i j)) : ∀ m, m ≤ n → ∀ i j, i < n → j < n → Ln L (B * 2 ^ m) (closeF f m i j)
  | 0, _, i, j, hi, hj => (h i j hi hj).mono (by omega)
  | m + 1, hm, i, j, hi, hj => by
    have ih := close_ln hL h m (by omega)
    show Ln L (B * 2 ^ (m + 1)) (stepF (closeF f m) m i j)
    have e : B * 2 ^ (m + 1) = B * 2 ^ m + B * 2 ^ m := by rw [Nat.pow_succ, Nat.mul_comm (2 ^ m) 2, Nat.mul_left_comm]; omega
    rw [e]
    exact ln_least ((ih i j hi hj).mono (by omega)) ((ih i m hi (by omega)).add hL (ih m j (by omega) hj))
end DL

set_option Elab.async false
set_option linter.all false
set_option maxRecDepth 100000
set_option autoImplicit false
set_option maxHeartbeats 2000000
/-! comprehensions over tables; lengths drawn; steps -/
namespace DL
open PySem PySem.Spec PyProof.Rows L2
section
variable {g : TDG} {tt : TDT} {te : TD} {vs : List Nat} {Q : DV → DSt → Prop}
/-- .. over what is told by places: entries of a kind -/
theorem lcL_rgmR (h : Nat → D) (R : Nat → D → Prop) (S : DSt) {n : Nat} (hl : n ≤ szl)
    (step : ∀ i, i < n → ∀ (M : D → DSt → Prop) (A : DSt → Prop), (∀ y, R i y → M y S) → g (h i) S fun s1 => tt s1 (fun b s2 => Br b (te s2 (fun x s3 => match pubV x with
      | .d y => M y (wipeD s3 vs)
      | _ => False) fun _ _ _ => False) (A (wipeD s2 vs))) fun _ _ _ => False) (q : ∀ f : Nat → D, (∀ i, i < n → R i (f i)) → Q (.own (.lst ((List.range n).map f))) S) : dLcL g tt te vs Q ((List.range n).map h) [] S := by
  have go : ∀ (k : Nat) (f : Nat → D) (acc : List D) (i : Nat), i + k = n → acc = (List.range i).map f → (∀ j, j < i → R j (f j)) → dLcL g tt te vs Q ((List.range' i k).map h) acc S := by
    intro k
    induction k with
    | zero =>
      intro f acc i h1 h2 h3
      show dLcL g tt te vs Q [] acc S
      rw [lcL_nil, h2]
      have e : i = n := by omega
      subst e
      exact q f h3
    | succ k ih =>
      intro f acc i h1 h2 h3
      show dLcL g tt te vs Q (h i :: (List.range' (i + 1) k).map h) acc S
      rw [lcL_cons]
      refine step i (by omega) (fun y s => acc.length < szl ∧ dLcL g tt te vs Q ((List.range' (i + 1) k).map h) (acc ++ [y]) s) (fun s => dLcL g tt te vs Q ((List.range' (i + 1) k).map h) acc s) (fun y hy => ⟨by rw [h2, List.length_map, List.length_range]; omega, ?_⟩)
      refine ih (fun j => if j = i then y else f j) (acc ++ [y]) (i + 1) (by omega) ?_ (fun j hj => ?_)
      · rw [List.range_succ, List.map_append, h2]
        congr 1
        · exact List.map_congr_left fun j hj => by
            have := List.mem_range.mp hj
            show f j = if j = i then y else f j
            rw [if_neg (by omega)]
        · show [y] = [if i = i then y else f i]
          rw [if_pos rfl]
      · show R j (if j = i then y else f j)
        by_cases e : j = i
        · subst e; rw [if_pos rfl]; exact hy
        · rw [if_neg e]; exact h3 j (by omega)
  have := go n (fun _ => .non) [] 0 (by omega) rfl (fun j hj => absurd hj (by omega))
  rw [List.range_eq_range']
  exact this
theorem lcL_rgm (h f : Nat → D) (S : DSt) {n : Nat} (hl : n ≤ szl)
    (step : ∀ i, i < n → ∀ (M : D → DSt → Prop) (A : DSt → Prop), M (f i) S → g (h i) S fun s1 => tt s1 (fun b s2 => Br b (te s2 (fun x s3 => match pubV x with
      | .d y => M y (wipeD s3 vs)
      | _ => False) fun _ _ _ => False) (A (wipeD s2 vs))) fun _ _ _ => False) (q : Q (.own (.lst ((List.range n).map f))) S) : dLcL g tt te vs Q ((List.range n).map h) [] S :=
  lcL_rgmR h (fun i y => y = f i) S hl (fun i hi M A hM => step i hi M A (hM _ rfl)) (fun f' hf => by
    have e : (List.range n).map f' = (List.range n).map f := List.map_congr_left fun i hi => hf i (List.mem_range.mp hi)
    rw [e]; exact q)
end
/-- a statement that leaves the slots as they are -/
theorem seq_cutN (C : Prop) {t u : TDS} {E : EndsD} {sl : DSt} (h : ∀ N : DSt → Prop, (C → N sl) → t { E with nx := N } sl) (q : C → u E sl) : dSeq t u E sl :=
  seq_cut (fun s => C ∧ s = sl) (fun N hN => h N fun c => hN _ ⟨c, rfl⟩) (fun s ⟨c, e⟩ => e ▸ q c)
theorem zip_map {α : Type} (f g : α → D) : ∀ xs : List α, zipD (xs.map f) (xs.map g) = xs.map fun x => .tup [f x, g x]
  | [] => rfl
  | x :: r => by show D.tup [f x, g x] :: zipD (r.map f) (r.map g) = _; rw [zip_map f g r]; rfl
/-! ### lengths drawn -/
theorem ln_div {m : Int} {k B : Nat} (h0 : 0 ≤ m) (h1 : m ≤ (B : Int)) (c : Nat) (hc : k * c = 60) : Ln 60 (B * 60) (Rat.divInt m (k : Int)) := by
  have hk : k ≠ 0 := fun e => by subst e; omega
  have hc0 : c ≠ 0 := fun e => by subst e; omega
  refine ⟨m.toNat * c, ?_, ?_⟩
  · rw [Rat.divInt_ofNat]
    have e : mkRat m k = mkRat (m * (c : Int)) (k * c) := (Rat.mkRat_mul_right hc0).symm
    rw [e, hc]
    congr 1
    rw [Int.natCast_mul, Int.toNat_of_nonneg h0]
  · have hc60 : c ≤ 60 := by
      rw [← hc]; exact Nat.le_mul_of_pos_left _ (Nat.pos_of_ne_zero hk)
    exact Nat.mul_le_mul (by omega) hc60
theorem ln_int {n : Int} {B : Nat} (h0 : 0 ≤ n) (h1 : n ≤ (B : Int)) : Ln 60 (B * 60) (n : Rat) := by
  have := ln_div (k := 1) h0 h1 60 rfl
  have e : Rat.divInt n ((1 : Nat) : Int) = (n : Rat) := rat_self (n : Rat)
  rw [e] at this; exact this
theorem ln_frac {m k : Int} {B : Nat} (h0 : 0 ≤ m) (h1 : m ≤ (B : Int)) (k1 : 1 ≤ k) (k2 : k ≤ 5) : Ln 60 (B * 60) (Rat.divInt m k) := by
  have hk : k = 1 ∨ k = 2 ∨ k = 3 ∨ k = 4 ∨ k = 5 := by omega
  rcases hk with rfl | rfl | rfl | rfl | rfl
  · exact ln_div (k := 1) h0 h1 60 rfl
  · exact ln_div (k := 2) h0 h1 30 rfl
  · exact ln_div (k := 3) h0 h1 20 rfl
  · exact ln_div (k := 4) h0 h1 15 rfl
  · exact ln_div (k := 5) h0 h1 12 rfl
end DL
namespace DL
open PySem PySem.Spec PyProof.Rows L2
theorem to_sl {u : TDS} {E : EndsD} {s s' : DSt} (e : s = s') (h : u E s') : u E s := e ▸ h
theorem to_dSeq {a b : TDS} {E : EndsD} {s s' : DSt} (e : s = s') (h : dSeq a b E s') : dSeq a b E s := e ▸ h
/-- what is wanted behind an assignment -/
def setK (i : Nat) (u : TDS) (E : EndsD) : DV → DSt → Prop
  | .see _, _ => False
  | y, s1 => u E (s1.set i (some y))
theorem set_st {te : TD} {i : Nat} {u : TDS} {E : EndsD} {sl : DSt} (h : te sl (setK i u E) E.xc) : dSeq (dSet te i) u E sl := by
  have e : (fun (x : DV) (s1 : DSt) => match x with
    | .see _ => False
    | y => u E (s1.set i (some y))) = setK i u E := funext fun x => funext fun s => by cases x <;> rfl
  show te sl (fun x s1 => match x with
    | .see _ => False
    | y => u E (s1.set i (some y))) E.xc
  rw [e]; exact h
theorem set_go {i : Nat} {u : TDS} {E : EndsD} {x : D} {s s' : DSt} (e : s.set i (some (.d x)) = s') (h : u E s') : setK i u E (.d x) s := by subst e; exact h
theorem set_goO {i : Nat} {u : TDS} {E : EndsD} {x : OO} {s s' : DSt} (e : s.set i (some (.own x)) = s') (h : u E s') : setK i u E (.own x) s := by subst e; exact h
theorem nx_go {P : DSt → Prop} {r : DV → Prop} {b c : DSt → Prop} {x : XP} {s s' : DSt} (e : s = s') (h : P s') : EndsD.nx { nx := P, rt := r, bk := b, ct := c, xc := x } s := e ▸ h
theorem next_go {E : EndsD} {s : DSt} (h : E.nx s) : dNext E s := h
theorem g2 {i j : Nat} {x y : D} {s s' : DSt} {Q : DSt → Prop} (e : ((s.set i (some (.d x))).set j (some (.d y))) = s') (h : Q s') : gConsD (gD i) (gConsD (gD j) gNilD) [x, y] s Q := by subst e; exact h
theorem g3 {i j k : Nat} {x y z : D} {s s' : DSt} {Q : DSt → Prop} (e : ((s.set i (some (.d x))).set j (some (.d y))).set k (some (.d z)) = s') (h : Q s') : gConsD (gD i) (gConsD (gD j) (gConsD (gD k) gNilD)) [x, y, z] s Q := by subst e; exact h
end DL

set_option Elab.async false
set_option linter.all false
set_option maxRecDepth 100000
set_option autoImplicit false
set_option maxHeartbeats 2000000
/-! steps as data: their trees and their words -/
namespace DL
open PySem PySem.Spec PyProof.Rows L2
/-- a ratio, or a number in its place -/
structure Vl where
  q : Rat
  bare : Bool
def Vl.d (v : Vl) : D := if v.bare then .int v.q.num else rD v.q
structure Vl.Ok (v : Vl) : Prop where
  ln : Ln 60 60000000 v.q
  br : v.bare = true → rD v.q = rt v.q.num 1
def numS (i : Int) : Str := (toString i : String)
def ratS (q : Rat) : Str := if (q.den : Int) = 1 then numS q.num else numS q.num ++ ("/" : Str) ++ numS (q.den : Int)
def Vl.txt (v : Vl) : Str := ratS v.q
/-- a part of a step: a word or a value -/
inductive Itm where
  | tx (z : Str) | vl (x : Vl)
def Itm.d : Itm → D
  | .tx z => .str z
  | .vl x => x.d
def Itm.txt : Itm → Str
  | .tx z => z
  | .vl x => x.txt
inductive Lf where
  | road (ride : Bool) (ly a b : Str) (v : Vl)
  | place (x a : Str) (v w : Vl)
  | same (a b : Str)
  | forget (a : Str)
  | cap (ly : Str) (v : Vl)
  | scale (ly : Str) (v : Vl)
  | turn
  | round (ly : Str)
def Lf.word : Lf → Str
  | .road r _ _ _ _ => if r then "ride" else "road"
  | .place .. => "place"
  | .same .. => "same"
  | .forget .. => "forget"
  | .cap .. => "cap"
  | .scale .. => "scale"
  | .turn => "turn"
  | .round .. => "round"
def Lf.rest : Lf → List Itm
  | .road _ ly a b v => [.tx ly, .tx a, .tx b, .vl v]
  | .place x a v w => [.tx x, .tx a, .vl v, .vl w]
  | .same a b => [.tx a, .tx b]
  | .forget a => [.tx a]
  | .cap ly v => [.tx ly, .vl v]
  | .scale ly v => [.tx ly, .vl v]
  | .turn => []
  | .round ly => [.tx ly]
def Lf.its (l : Lf) : List Itm := .tx l.word :: l.rest
def Lf.d (l : Lf) : D := .tup (l.its.map Itm.d)
def Lf.ws (l : Lf) : List Str := l.its.map Itm.txt
inductive Stp where
  | lf (l : Lf)
  | iff (ly a b : Str) (v : Vl) (t e : List Stp)
  | rep (n : Nat) (t : List Stp)
mutual
def Stp.d : Stp → D
  | .lf l => l.d
  | .iff ly a b v t e => .tup [.str "if", .str ly, .str a, .str b, v.d, .tup (Stp.ds t), .tup (Stp.ds e)]
  | .rep n t => .tup [.str "repeat", .int (n : Int), .tup (Stp.ds t)]
def Stp.ds : List Stp → List D
  | [] => []
  | s :: r => s.d :: Stp.ds r
end
mutual
def Stp.ws : Stp → List Str
  | .lf l => l.ws
  | .iff ly a b v t e => ([("if" : Str), ly, a, b, v.txt] : List Str) ++ (("(" : Str) :: (Stp.wss t ++ [(")" : Str)])) ++ ([("else" : Str)] ++ (("(" : Str) :: (Stp.wss e ++ [(")" : Str)])))
  | .rep n t => ([("repeat" : Str), numS (n : Int)] : List Str) ++ (("(" : Str) :: (Stp.wss t ++ [(")" : Str)]))
def Stp.wss : List Stp → List Str
  | [] => []
  | s :: r => s.ws ++ Stp.wst r
def Stp.wst : List Stp → List Str
  | [] => []
  | s :: r => (";" : Str) :: (s.ws ++ Stp.wst r)
end
mutual
def Stp.dp : Stp → Nat
  | .lf _ => 0
  | .iff _ _ _ _ t e => max (Stp.dps t) (Stp.dps e) + 1
  | .rep _ t => Stp.dps t + 1
def Stp.dps : List Stp → Nat
  | [] => 0
  | s :: r => max s.dp (Stp.dps r)
end
/-! how many steps there are, those within one another counted -/
mutual
def Stp.sz : Stp → Nat
  | .lf _ => 1
  | .iff _ _ _ _ t e => Stp.szs t + Stp.szs e + 1
  | .rep _ t => Stp.szs t + 1
def Stp.szs : List Stp → Nat
  | [] => 0
  | s :: r => s.sz + Stp.szs r
end
/-- words that can be told -/
structure WOk (z : Str) : Prop where
  len : z.length ≤ 30
  ok : okS z
def Itm.Ok : Itm → Prop
  | .tx z => WOk z
  | .vl x => x.Ok
mutual
def Stp.Good : Stp → Prop
  | .lf l => ∀ i ∈ l.its, i.Ok
  | .iff ly a b v t e => WOk ly ∧ WOk a ∧ WOk b ∧ v.Ok ∧ Stp.Goods t ∧ Stp.Goods e
  | .rep n t => n ≤ 1000 ∧ Stp.Goods t
def Stp.Goods : List Stp → Prop
  | [] => True
  | s :: r => s.Good ∧ Stp.Goods r
end
theorem Stp.ds_map : ∀ ss : List Stp, Stp.ds ss = ss.map Stp.d
  | [] => by rw [Stp.ds]; rfl
  | s :: r => by rw [Stp.ds, Stp.ds_map r]; rfl
theorem Stp.goods_iff : ∀ {ss : List Stp}, Stp.Goods ss ↔ ∀ s ∈ ss, s.Good
  | [] => by rw [Stp.Goods]; simp
  | s :: r => by rw [Stp.Goods, Stp.goods_iff]; simp
theorem Stp.wst_app : ∀ p r : List Stp, Stp.wst (p ++ r) = Stp.wst p ++ Stp.wst r
  | [], r => by rw [Stp.wst]; rfl
  | s :: p, r => by rw [List.cons_append, Stp.wst, Stp.wst, Stp.wst_app p r]; simp
theorem Stp.wss_app (p r : List Stp) : Stp.wss (p ++ r) = Stp.wss p ++ (if p = [] then Stp.wss r else Stp.wst r) := by
  cases p with
  | nil => rw [if_pos rfl, Stp.wss]; rfl
  | cons s p => rw [if_neg (by simp), List.cons_append, Stp.wss, Stp.wss, Stp.wst_app]; simp
theorem Stp.wss_snoc (p : List Stp) (s : Stp) : Stp.wss (p ++ [s]) = Stp.wss p ++ ((if p = [] then [] else [(";" : Str)]) ++ s.ws) := by
  rw [Stp.wss_app]
  congr 1
  by_cases e : p = []
  · rw [if_pos e, if_pos e, Stp.wss, Stp.wst]; simp
  · rw [if_neg e, if_neg e, Stp.wst, Stp.wst]; simp
theorem Stp.ws_ne (s : Stp) : s.ws ≠ [] := by
  cases s with
  | lf l => rw [Stp.ws]; simp [Lf.ws, Lf.its]
  | iff => rw [Stp.ws]; simp
  | rep => rw [Stp.ws]; simp
theorem Stp.wss_ne {p : List Stp} : Stp.wss p = [] ↔ p = [] := by
  cases p with
  | nil => rw [Stp.wss]; simp
  | cons s r => rw [Stp.wss]; simp [Stp.ws_ne s]
theorem Stp.dps_mem : ∀ {ss : List Stp} {s : Stp}, s ∈ ss → s.dp ≤ Stp.dps ss
  | t :: r, s, h => by
    rw [Stp.dps]
    rcases List.mem_cons.mp h with rfl | h
    · omega
    · have := Stp.dps_mem h; omega
/-! bounds -/
theorem WOk.of (s : String) (h : (s : Str).length ≤ 30) : WOk s := ⟨h, ok_of s⟩
theorem num_ok {i : Int} (h : i.natAbs < 10 ^ 12) : (numS i).length ≤ 13 ∧ okS (numS i) := ⟨int_len (b := 12) h, ok_of _⟩
theorem Vl.Ok.nums {v : Vl} (h : v.Ok) : v.q.num.natAbs < 10 ^ 12 ∧ v.q.den < 10 ^ 12 := by
  have := h.ln.nb (k := 30) (by decide) (by decide) (by decide)
  exact ⟨Nat.lt_trans this.n (by decide), Nat.lt_trans this.d (by decide)⟩
theorem ratS_ok {q : Rat} (h1 : q.num.natAbs < 10 ^ 12) (h2 : q.den < 10 ^ 12) : WOk (ratS q) := by
  obtain ⟨a, b⟩ := num_ok h1
  have h3 : (q.den : Int).natAbs < 10 ^ 12 := by simpa using h2
  obtain ⟨c, e⟩ := num_ok h3
  unfold ratS
  split
  · exact ⟨by omega, b⟩
  · refine ⟨?_, ok_app (ok_app b (ok_of "/")) e⟩
    rw [str_app_len, str_app_len]
    have : (("/" : String) : Str).length = 1 := by decide
    omega
theorem Vl.Ok.txt {v : Vl} (h : v.Ok) : WOk v.txt := ratS_ok h.nums.1 h.nums.2
theorem Itm.Ok.txt {i : Itm} (h : i.Ok) : WOk i.txt := by
  cases i with
  | tx z => exact h
  | vl x => exact Vl.Ok.txt h
mutual
theorem Stp.Good.words : ∀ {s : Stp}, s.Good → ∀ z ∈ s.ws, WOk z
  | .lf l, h, z, hz => by
    rw [Stp.Good] at h
    rw [Stp.ws] at hz
    obtain ⟨i, hi, rfl⟩ := List.mem_map.mp hz
    exact (h i hi).txt
  | .iff ly a b v t e, h, z, hz => by
    rw [Stp.Good] at h
    obtain ⟨h1, h2, h3, h4, h5, h6⟩ := h
    rw [Stp.ws] at hz
    have sub : ∀ {ss : List Stp}, Stp.Goods ss → (∀ z ∈ Stp.wss ss, WOk z) → ∀ z ∈ ("(" : Str) :: (Stp.wss ss ++ [(")" : Str)]), WOk z := fun {ss} _ hh z hz => by
      rcases List.mem_cons.mp hz with rfl | hz
      · exact WOk.of "(" (by decide)
      rcases List.mem_append.mp hz with hz | hz
      · exact hh z hz
      · rw [List.mem_singleton.mp hz]; exact WOk.of ")" (by decide)
    rcases List.mem_append.mp hz with hz | hz
    · rcases List.mem_append.mp hz with hz | hz
      · simp only [List.mem_cons, List.not_mem_nil, or_false] at hz
        rcases hz with rfl | rfl | rfl | rfl | rfl
        · exact WOk.of "if" (by decide)
        · exact h1
        · exact h2
        · exact h3
        · exact h4.txt
      · exact sub h5 (fun z hz => Stp.Goods.words h5 z hz) z hz
    · rcases List.mem_append.mp hz with hz | hz
      · rw [List.mem_singleton.mp hz]; exact WOk.of "else" (by decide)
      · exact sub h6 (fun z hz => Stp.Goods.words h6 z hz) z hz
  | .rep n t, h, z, hz => by
    rw [Stp.Good] at h
    rw [Stp.ws] at hz
    rcases List.mem_append.mp hz with hz | hz
    · simp only [List.mem_cons, List.not_mem_nil, or_false] at hz
      rcases hz with rfl | rfl
      · exact WOk.of "repeat" (by decide)
      · have := num_ok (i := (n : Int)) (by have := h.1; omega)
        exact ⟨by omega, this.2⟩
    · rcases List.mem_cons.mp hz with rfl | hz
      · exact WOk.of "(" (by decide)
      rcases List.mem_append.mp hz with hz | hz
      · exact Stp.Goods.words h.2 z hz
      · rw [List.mem_singleton.mp hz]; exact WOk.of ")" (by decide)
theorem Stp.Goods.words : ∀ {ss : List Stp}, Stp.Goods ss → ∀ z ∈ Stp.wss ss, WOk z
  | [], h, z, hz => by rw [Stp.wss] at hz; cases hz
  | s :: r, h, z, hz => by
    rw [Stp.Goods] at h
    rw [Stp.wss] at hz
    rcases List.mem_append.mp hz with hz | hz
    · exact Stp.Good.words h.1 z hz
    · exact Stp.Goods.tails h.2 z hz
theorem Stp.Goods.tails : ∀ {ss : List Stp}, Stp.Goods ss → ∀ z ∈ Stp.wst ss, WOk z
  | [], h, z, hz => by rw [Stp.wst] at hz; cases hz
  | s :: r, h, z, hz => by
    rw [Stp.Goods] at h
    rw [Stp.wst] at hz
    rcases List.mem_cons.mp hz with rfl | hz
    · exact WOk.of ";" (by decide)
    rcases List.mem_append.mp hz with hz | hz
    · exact Stp.Good.words h.1 z hz
    · exact Stp.Goods.tails h.2 z hz
end
end DL
namespace DL
open PySem PySem.Spec PyProof.Rows L2
section
variable {g : TDG} {tt : TDT} {te : TD} {vs : List Nat} {Q : DV → DSt → Prop}
/-- .. over the images of a list -/
theorem lcL_mapA {α : Type} (h f : α → D) (S : DSt) {xs : List α} (hl : xs.length ≤ szl)
    (step : ∀ x ∈ xs, ∀ (M : D → DSt → Prop) (A : DSt → Prop), M (f x) S → g (h x) S fun s1 => tt s1 (fun b s2 => Br b (te s2 (fun x s3 => match pubV x with
      | .d y => M y (wipeD s3 vs)
      | _ => False) fun _ _ _ => False) (A (wipeD s2 vs))) fun _ _ _ => False) (q : Q (.own (.lst (xs.map f))) S) : dLcL g tt te vs Q (xs.map h) [] S := by
  have go : ∀ (dn r : List α), dn ++ r = xs → dLcL g tt te vs Q (r.map h) (dn.map f) S := by
    intro dn r
    induction r generalizing dn with
    | nil =>
      intro e
      rw [List.append_nil] at e
      show dLcL g tt te vs Q [] (dn.map f) S
      rw [lcL_nil, e]; exact q
    | cons x r ih =>
      intro e
      show dLcL g tt te vs Q (h x :: r.map h) (dn.map f) S
      rw [lcL_cons]
      have hl2 : dn.length < szl := by
        have := congrArg List.length e
        rw [List.length_append, List.length_cons] at this
        omega
      refine step x (by rw [← e]; simp) (fun y s => (dn.map f).length < szl ∧ dLcL g tt te vs Q (r.map h) (dn.map f ++ [y]) s) (fun s => dLcL g tt te vs Q (r.map h) (dn.map f) s) ⟨by rw [List.length_map]; exact hl2, ?_⟩
      have := ih (dn ++ [x]) (by rw [← e]; simp)
      rw [List.map_append] at this
      exact this
  exact go [] xs rfl
end
/-! ### layers, drawn steps -/
def LyOk (m : Nat) (ly : Str) : Prop := ly = "foot" ∨ (m = 2 ∧ ly = "cart")
theorem LyOk.w {m : Nat} {ly : Str} (h : LyOk m ly) : WOk ly := by
  rcases h with rfl | ⟨_, rfl⟩
  · exact WOk.of "foot" (by decide)
  · exact WOk.of "cart" (by decide)
theorem name_w {z : Str} (h : nameOk z = true) : WOk z := by
  unfold nameOk at h
  simp only [Bool.and_eq_true, decide_eq_true_eq] at h
  exact ⟨by omega, fun c hc => ok_of "abcdefghijklmnopqrstuvwxyz" c (of_decide_eq_true (List.all_eq_true.mp h.2 c hc))⟩
/-- a step without steps in it that fits some names; z is a new name -/
def LfFit (m : Nat) (ns : List Str) (z : Str) : Lf → Prop
  | .road r ly a b v => LyOk m ly ∧ a ∈ ns ∧ b ∈ ns ∧ v.Ok ∧ (r = true → m = 2)
  | .place x a v w => x = z ∧ a ∈ ns ∧ v.Ok ∧ w.Ok
  | .same a b => a ∈ ns ∧ b ∈ ns ∧ a ≠ b
  | .forget a => a ∈ ns
  | .cap ly v => LyOk m ly ∧ v.Ok
  | .scale ly v => LyOk m ly ∧ v.Ok ∧ 0 < v.q
  | .turn => True
  | .round ly => LyOk m ly
/-- the names behind it -/
def EndsR (ns : List Str) : Lf → List Str → Prop
  | .place x _ _ _, ys => ys.Perm (ns ++ [x]) ∧ sortedS ys = true
  | .same _ b, ys => ys = ns.filter fun n => !decide (n = b)
  | .forget a, ys => ys = ns.filter fun n => !decide (n = a)
  | _, ys => ys = ns
def Lf.places : Lf → Prop
  | .place .. => True
  | _ => False
mutual
def Stp.Fit (m : Nat) : List Str → Stp → List Str → Prop
  | ns, .lf l, ys => (∃ z, (l.places → z ∉ ns ∧ nameOk z = true) ∧ LfFit m ns z l) ∧ EndsR ns l ys
  | ns, .iff ly a b v t e, ys => LyOk m ly ∧ a ∈ ns ∧ b ∈ ns ∧ v.Ok ∧ Stp.Fits m ns t ys ∧ Stp.Fits m ns e ys
  | ns, .rep n t, ys => ys = ns ∧ 1 ≤ n ∧ n ≤ 3 ∧ Stp.Fits m ns t ns
def Stp.Fits (m : Nat) : List Str → List Stp → List Str → Prop
  | ns, [], ys => ys = ns
  | ns, s :: r, ys => ∃ n1, Stp.Fit m ns s n1 ∧ Stp.Fits m n1 r ys
end
theorem Stp.fits_app {m : Nat} : ∀ {p r : List Stp} {ns ys : List Str}, Stp.Fits m ns (p ++ r) ys ↔ ∃ n1, Stp.Fits m ns p n1 ∧ Stp.Fits m n1 r ys
  | [], r, ns, ys => by
    constructor
    · intro h; exact ⟨ns, by rw [Stp.Fits], h⟩
    · rintro ⟨n1, h1, h2⟩
      rw [Stp.Fits] at h1; subst h1; exact h2
  | s :: p, r, ns, ys => by
    rw [List.cons_append, Stp.Fits]
    constructor
    · rintro ⟨n1, h1, h2⟩
      obtain ⟨n2, h3, h4⟩ := Stp.fits_app.mp h2
      exact ⟨n2, by rw [Stp.Fits]; exact ⟨n1, h1, h3⟩, h4⟩
    · rintro ⟨n2, h1, h4⟩
      rw [Stp.Fits] at h1
      obtain ⟨n1, h1, h3⟩ := h1
      exact ⟨n1, h1, Stp.fits_app.mpr ⟨n2, h3, h4⟩⟩
theorem Stp.fits_one {m : Nat} {s : Stp} {ns ys : List Str} (h : Stp.Fit m ns s ys) : Stp.Fits m ns [s] ys := by
  rw [Stp.Fits]; exact ⟨ys, h, by rw [Stp.Fits]⟩
theorem LfFit.good {m : Nat} {ns : List Str} {z : Str} {l : Lf} (hn : ∀ n ∈ ns, nameOk n = true) (hz : l.places → nameOk z = true) (h : LfFit m ns z l) : (Stp.lf l).Good := by
  rw [Stp.Good]
  intro i hi
  have nm : ∀ {a}, a ∈ ns → WOk a := fun ha => name_w (hn _ ha)
  cases l with
  | road r ly a b v =>
    obtain ⟨h1, h2, h3, h4, _⟩ := h
    simp only [Lf.its, Lf.word, Lf.rest, List.mem_cons, List.not_mem_nil, or_false] at hi
    rcases hi with rfl | rfl | rfl | rfl | rfl
    · cases r
      · exact WOk.of "road" (by decide)
      · exact WOk.of "ride" (by decide)
    · exact h1.w
    · exact nm h2
    · exact nm h3
    · exact h4
  | place x a v w =>
    obtain ⟨h1, h2, h3, h4⟩ := h
    simp only [Lf.its, Lf.word, Lf.rest, List.mem_cons, List.not_mem_nil, or_false] at hi
    rcases hi with rfl | rfl | rfl | rfl | rfl
    · exact WOk.of "place" (by decide)
    · rw [h1]; exact name_w (hz trivial)
    · exact nm h2
    · exact h3
    · exact h4
  | same a b =>
    simp only [Lf.its, Lf.word, Lf.rest, List.mem_cons, List.not_mem_nil, or_false] at hi
    rcases hi with rfl | rfl | rfl
    · exact WOk.of "same" (by decide)
    · exact nm h.1
    · exact nm h.2.1
  | forget a =>
    simp only [Lf.its, Lf.word, Lf.rest, List.mem_cons, List.not_mem_nil, or_false] at hi
    rcases hi with rfl | rfl
    · exact WOk.of "forget" (by decide)
    · exact nm h
  | cap ly v =>
    simp only [Lf.its, Lf.word, Lf.rest, List.mem_cons, List.not_mem_nil, or_false] at hi
    rcases hi with rfl | rfl | rfl
    · exact WOk.of "cap" (by decide)
    · exact h.1.w
    · exact h.2
  | scale ly v =>
    simp only [Lf.its, Lf.word, Lf.rest, List.mem_cons, List.not_mem_nil, or_false] at hi
    rcases hi with rfl | rfl | rfl
    · exact WOk.of "scale" (by decide)
    · exact h.1.w
    · exact h.2.1
  | turn =>
    simp only [Lf.its, Lf.word, Lf.rest, List.mem_cons, List.not_mem_nil, or_false] at hi
    rcases hi with rfl
    exact WOk.of "turn" (by decide)
  | round ly =>
    simp only [Lf.its, Lf.word, Lf.rest, List.mem_cons, List.not_mem_nil, or_false] at hi
    rcases hi with rfl | rfl
    · exact WOk.of "round" (by decide)
    · exact LyOk.w h
structure NsOk (ns : List Str) : Prop where
  nd : ns.Nodup
  nm : ∀ n ∈ ns, nameOk n = true
theorem NsOk.filter {ns : List Str} (h : NsOk ns) (p : Str → Bool) : NsOk (ns.filter p) := ⟨h.nd.sublist List.filter_sublist, fun n hn => h.nm n (List.mem_filter.mp hn).1⟩
theorem EndsR.ok {m : Nat} {ns ys : List Str} {z : Str} {l : Lf} (h : NsOk ns) (hz : l.places → z ∉ ns ∧ nameOk z = true) (f : LfFit m ns z l) (e : EndsR ns l ys) : NsOk ys := by
  cases l with
  | place x a v w =>
    obtain ⟨rfl, _⟩ := f
    obtain ⟨p, _⟩ := e
    obtain ⟨hz, hn⟩ := hz trivial
    refine ⟨p.nodup_iff.mpr ?_, fun n hn2 => ?_⟩
    · rw [List.nodup_append]
      exact ⟨h.nd, by simp, fun a ha b hb e => hz (by rw [List.mem_singleton.mp hb] at e; exact e ▸ ha)⟩
    · rcases List.mem_append.mp (p.mem_iff.mp hn2) with q | q
      · exact h.nm n q
      · rw [List.mem_singleton.mp q]; exact hn
  | same a b => rw [show ys = _ from e]; exact h.filter _
  | forget a => rw [show ys = _ from e]; exact h.filter _
  | road => rw [show ys = ns from e]; exact h
  | cap => rw [show ys = ns from e]; exact h
  | scale => rw [show ys = ns from e]; exact h
  | turn => rw [show ys = ns from e]; exact h
  | round => rw [show ys = ns from e]; exact h
mutual
theorem Stp.Fit.good {m : Nat} : ∀ {s : Stp} {ns ys : List Str}, NsOk ns → Stp.Fit m ns s ys → s.Good ∧ NsOk ys
  | .lf l, ns, ys, h, f => by
    rw [Stp.Fit] at f
    obtain ⟨⟨z, z1, z3⟩, e⟩ := f
    exact ⟨z3.good h.nm fun p => (z1 p).2, e.ok h z1 z3⟩
  | .iff ly a b v t e, ns, ys, h, f => by
    rw [Stp.Fit] at f
    obtain ⟨f1, f2, f3, f4, f5, f6⟩ := f
    have g5 := Stp.Fits.good h f5
    have g6 := Stp.Fits.good h f6
    rw [Stp.Good]
    exact ⟨⟨f1.w, name_w (h.nm a f2), name_w (h.nm b f3), f4, g5.1, g6.1⟩, g5.2⟩
  | .rep n t, ns, ys, h, f => by
    rw [Stp.Fit] at f
    obtain ⟨f1, f2, f3, f4⟩ := f
    rw [Stp.Good]
    exact ⟨⟨by omega, (Stp.Fits.good h f4).1⟩, by rw [f1]; exact h⟩
theorem Stp.Fits.good {m : Nat} : ∀ {ss : List Stp} {ns ys : List Str}, NsOk ns → Stp.Fits m ns ss ys → Stp.Goods ss ∧ NsOk ys
  | [], ns, ys, h, f => by
    rw [Stp.Fits] at f
    rw [Stp.Goods]
    exact ⟨trivial, by rw [f]; exact h⟩
  | s :: r, ns, ys, h, f => by
    rw [Stp.Fits] at f
    obtain ⟨n1, f1, f2⟩ := f
    have g1 := Stp.Fit.good h f1
    have g2 := Stp.Fits.good g1.2 f2
    rw [Stp.Goods]
    exact ⟨⟨g1.1, g2.1⟩, g2.2⟩
end
/-! how many words -/
mutual
theorem Stp.ws_len : ∀ s : Stp, s.ws.length + 1 ≤ 13 * s.sz
  | .lf l => by
    rw [Stp.ws, Stp.sz]
    cases l <;> simp [Lf.ws, Lf.its, Lf.rest]
  | .iff ly a b v t e => by
    rw [Stp.ws, Stp.sz]
    have h1 := Stp.wss_len t
    have h2 := Stp.wss_len e
    simp
    omega
  | .rep n t => by
    rw [Stp.ws, Stp.sz]
    have h1 := Stp.wss_len t
    simp
    omega
theorem Stp.wss_len : ∀ ss : List Stp, (Stp.wss ss).length ≤ 13 * Stp.szs ss
  | [] => by rw [Stp.wss, Stp.szs]; simp
  | s :: r => by
    rw [Stp.wss, Stp.szs]
    have h1 := Stp.ws_len s
    have h2 := Stp.wst_len r
    simp
    omega
theorem Stp.wst_len : ∀ ss : List Stp, (Stp.wst ss).length ≤ 13 * Stp.szs ss
  | [] => by rw [Stp.wst, Stp.szs]; simp
  | s :: r => by
    rw [Stp.wst, Stp.szs]
    have h1 := Stp.ws_len s
    have h2 := Stp.wst_len r
    simp
    omega
end
end DL
namespace DL
open PySem PySem.Spec PyProof.Rows L2
/-! ### displays with stars -/
theorem dats_nil : dats [] = some [] := rfl
theorem dats_c (x : D) (r : List DV) : dats (.d x :: r) = (dats r).map (x :: ·) := by rw [dats]
theorem dats_m : ∀ (ds : List D) (r : List DV), dats (ds.map DV.d ++ r) = (dats r).map (ds ++ ·)
  | [], r => by cases h : dats r <;> simp [h]
  | d :: ds, r => by
    rw [List.map_cons, List.cons_append, dats_c, dats_m ds r]
    cases h : dats r <;> simp
/-! ### joined words -/
theorem fold_ok (g : Str) (hg : okS g) (hl : g.length ≤ 1) : ∀ (ws : List Str) (acc : Array Nat), (∀ z ∈ ws, WOk z) → (∀ c ∈ acc.toList, c < 0x110000) →
    (∀ c ∈ (ws.foldl (fun acc p => acc ++ g.cps ++ p.cps) acc).toList, c < 0x110000) ∧ (ws.foldl (fun acc p => acc ++ g.cps ++ p.cps) acc).size ≤ acc.size + 31 * ws.length
  | [], acc, _, h => ⟨h, by simp⟩
  | w :: ws, acc, hw, h => by
    have w1 := hw w (List.mem_cons_self ..)
    have ih := fold_ok g hg hl ws (acc ++ g.cps ++ w.cps) (fun z hz => hw z (List.mem_cons_of_mem _ hz)) (fun c hc => by
      simp only [Array.toList_append, List.mem_append] at hc
      rcases hc with (hc | hc) | hc
      · exact h c hc
      · exact hg c hc
      · exact w1.ok c hc)
    refine ⟨ih.1, Nat.le_trans ih.2 ?_⟩
    have l1 : w.cps.size ≤ 30 := w1.len
    have l2 : g.cps.size ≤ 1 := hl
    simp only [Array.size_append, List.length_cons]
    omega
theorem join_ok {ws : List Str} (h : ∀ z ∈ ws, WOk z) : okS (Txt.join " " ws) ∧ (Txt.join " " ws).length ≤ 31 * ws.length := by
  cases ws with
  | nil =>
    have e : Txt.join " " [] = Str.empty := rfl
    rw [e]
    exact ⟨fun c hc => (by cases hc), Nat.le_refl _⟩
  | cons w ws =>
    have w1 := h w (List.mem_cons_self ..)
    have := fold_ok " " (ok_of " ") (by decide) ws w.cps (fun z hz => h z (List.mem_cons_of_mem _ hz)) w1.ok
    refine ⟨this.1, Nat.le_trans this.2 ?_⟩
    have l1 : w.cps.size ≤ 30 := w1.len
    simp only [List.length_cons]
    omega
theorem sum_le {ws : List Str} (h : ∀ z ∈ ws, WOk z) : (ws.map (·.length)).sum ≤ 30 * ws.length := by
  induction ws with
  | nil => exact Nat.le_refl _
  | cons w ws ih =>
    have w1 := (h w (List.mem_cons_self ..)).len
    have := ih fun z hz => h z (List.mem_cons_of_mem _ hz)
    rw [List.map_cons, List.sum_cons, List.length_cons]
    omega
theorem strs_map' (ks : List Str) : strsD (ks.map D.str) = some ks := by
  induction ks with
  | nil => rfl
  | cons k r ih => show (strsD (r.map D.str)).map (k :: ·) = _; rw [ih]; rfl
theorem l_joinS {v : DV} {ws : List Str} {Q : DV → Prop} (hv : seqD v = some (ws.map D.str)) (h : ∀ z ∈ ws, WOk z) (hl : ws.length ≤ 10000) (q : Q (.d (.str (Txt.join " " ws)))) : joinR (.d (.str " ")) v Q :=
  l_join hv (strs_map' ws) (by
    have := sum_le h
    have l1 : ((" " : String) : Str).length = 1 := by decide
    rw [l1]; omega) q
theorem lg {n : Nat} (h : n < 10 ^ 100) : n.log2 < 1920 := by
  by_cases z : n = 0
  · subst z; decide
  · rw [Nat.log2_lt z]
    refine Nat.lt_of_lt_of_le h ?_
    refine Nat.le_trans (Nat.pow_le_pow_left (show 10 ≤ 2 ^ 4 by decide) 100) ?_
    rw [← Nat.pow_mul]
    exact Nat.pow_le_pow_right (by decide) (by decide)
theorem num_len {i : Int} (h : i.natAbs < 10 ^ 100) : (numS i).length ≤ 101 := int_len (b := 100) h
theorem empty_app (x : Str) : Str.empty ++ x = x := by
  cases x with
  | mk a =>
    show (⟨#[] ++ a⟩ : Str) = ⟨a⟩
    rw [Array.empty_append]
theorem Itm.tup_int (v : Vl) (h : v.Ok) : v.d = rD v.q ∨ (v.d = .int v.q.num ∧ rD v.q = rt v.q.num 1) := by
  unfold Vl.d
  cases e : v.bare with
  | false => exact .inl rfl
  | true => exact .inr ⟨rfl, h.br e⟩
theorem den_one {q : Rat} (e : rD q = rt q.num 1) : (q.den : Int) = 1 := by
  have e2 : D.tup [.int q.num, .int q.den] = D.tup [.int q.num, .int 1] := e
  injection e2 with e2; injection e2 with _ e2; injection e2 with e2 _; injection e2
theorem rat_num {q : Rat} (e : (q.den : Int) = 1) : ((q.num : Int) : Rat) = q := by
  have h5 := rat_self q
  rw [e] at h5
  exact (rat_self (q.num : Rat)).symm.trans h5
end DL
namespace DL
open PySem PySem.Spec PyProof.Rows L2
def leafWords : List Str := ["road", "ride", "place", "same", "forget", "cap", "scale", "turn", "round"]
theorem Lf.word_mem (l : Lf) : l.word ∈ leafWords := by
  cases l with
  | road r _ _ _ _ => cases r <;> simp [Lf.word, leafWords]
  | _ => simp [Lf.word, leafWords]
theorem Lf.word_ne (l : Lf) : l.word ≠ "if" ∧ l.word ≠ "repeat" := by
  have h : ∀ w ∈ leafWords, w ≠ ("if" : Str) ∧ w ≠ ("repeat" : Str) := by decide +kernel
  exact h _ l.word_mem
theorem set_endO {te : TD} {E : EndsD} {sl s' : DSt} {i : Nat} (R : List D → Prop) (h : ∀ Q : DV → DSt → Prop, (∀ ds, R ds → Q (.own (.lst ds)) s') → te sl Q E.xc) (q : ∀ ds, R ds → E.nx (s'.set i (some (.own (.lst ds))))) : dSet te i E sl :=
  h _ q
end DL
namespace DL
open PySem PySem.Spec PyProof.Rows L2
theorem Lf.word_forget {l : Lf} (h : l.word = "forget") : ∃ a, l = .forget a := by
  cases l with
  | forget a => exact ⟨a, rfl⟩
  | road r _ _ _ _ =>
    cases r
    · exact absurd h (by show ("road" : Str) ≠ "forget"; decide +kernel)
    · exact absurd h (by show ("ride" : Str) ≠ "forget"; decide +kernel)
  | place => exact absurd h (by show ("place" : Str) ≠ "forget"; decide +kernel)
  | same => exact absurd h (by show ("same" : Str) ≠ "forget"; decide +kernel)
  | cap => exact absurd h (by show ("cap" : Str) ≠ "forget"; decide +kernel)
  | scale => exact absurd h (by show ("scale" : Str) ≠ "forget"; decide +kernel)
  | turn => exact absurd h (by show ("turn" : Str) ≠ "forget"; decide +kernel)
  | round => exact absurd h (by show ("round" : Str) ≠ "forget"; decide +kernel)
theorem Lf.word_same {l : Lf} (h : l.word = "same") : ∃ a b, l = .same a b := by
  cases l with
  | same a b => exact ⟨a, b, rfl⟩
  | road r _ _ _ _ =>
    cases r
    · exact absurd h (by show ("road" : Str) ≠ "same"; decide +kernel)
    · exact absurd h (by show ("ride" : Str) ≠ "same"; decide +kernel)
  | place => exact absurd h (by show ("place" : Str) ≠ "same"; decide +kernel)
  | forget => exact absurd h (by show ("forget" : Str) ≠ "same"; decide +kernel)
  | cap => exact absurd h (by show ("cap" : Str) ≠ "same"; decide +kernel)
  | scale => exact absurd h (by show ("scale" : Str) ≠ "same"; decide +kernel)
  | turn => exact absurd h (by show ("turn" : Str) ≠ "same"; decide +kernel)
  | round => exact absurd h (by show ("round" : Str) ≠ "same"; decide +kernel)
theorem Lf.word_place {l : Lf} (h : l.word = "place") : ∃ x a v w, l = .place x a v w := by
  cases l with
  | place x a v w => exact ⟨x, a, v, w, rfl⟩
  | road r _ _ _ _ =>
    cases r
    · exact absurd h (by show ("road" : Str) ≠ "place"; decide +kernel)
    · exact absurd h (by show ("ride" : Str) ≠ "place"; decide +kernel)
  | same => exact absurd h (by show ("same" : Str) ≠ "place"; decide +kernel)
  | forget => exact absurd h (by show ("forget" : Str) ≠ "place"; decide +kernel)
  | cap => exact absurd h (by show ("cap" : Str) ≠ "place"; decide +kernel)
  | scale => exact absurd h (by show ("scale" : Str) ≠ "place"; decide +kernel)
  | turn => exact absurd h (by show ("turn" : Str) ≠ "place"; decide +kernel)
  | round => exact absurd h (by show ("round" : Str) ≠ "place"; decide +kernel)
def Lf.gone : Lf → List Str
  | .forget a => [a]
  | .same _ b => [b]
  | _ => []
theorem EndsR.eq {ns ys : List Str} {l : Lf} (hp : l.word ≠ "place") (h : ys = ns.filter fun n => !decide (n ∈ l.gone)) : EndsR ns l ys := by
  cases l with
  | place => exact absurd rfl hp
  | forget a => rw [h]; show _ = ns.filter _; congr 1; funext n; simp [Lf.gone]
  | same a b => rw [h]; show _ = ns.filter _; congr 1; funext n; simp [Lf.gone]
  | road => rw [h]; show _ = ns; simp [Lf.gone]
  | cap => rw [h]; show _ = ns; simp [Lf.gone]
  | scale => rw [h]; show _ = ns; simp [Lf.gone]
  | turn => rw [h]; show _ = ns; simp [Lf.gone]
  | round => rw [h]; show _ = ns; simp [Lf.gone]
theorem inF_strs (z : Str) : ∀ gs : List Str, inF (.str z) (gs.map D.str) = decide (z ∈ gs)
  | [] => rfl
  | g :: r => by
    have ih := inF_strs z r
    unfold inF at ih ⊢
    rw [List.map_cons, List.any_cons, ih]
    show ((g == z) || decide (z ∈ r)) = decide (z ∈ g :: r)
    by_cases e : g = z
    · subst e; simp
    · have e2 : ¬ z = g := fun q => e q.symm
      rw [beq_eq_false_iff_ne.mpr e, Bool.false_or]
      simp [e2]
theorem flat_strs (gs : List Str) : (gs.map D.str).all flatD = true := by
  rw [List.all_map]
  exact List.all_eq_true.mpr fun _ _ => rfl
theorem sms_strs : ∀ {ws : List Str}, (∀ z ∈ ws, WOk z) → Sms 20 0 (304 * ws.length) (ws.map .str)
  | [], _ => sms_nil
  | z :: r, h => by
    have hz := h z (List.mem_cons_self ..)
    have := sms_cons (sm_str (b := 20) (m := 30) hz.ok hz.len) (sms_strs (ws := r) fun y hy => h y (List.mem_cons_of_mem _ hy))
    exact this.mono (by omega) (by rw [List.length_cons]; omega)
theorem sh_strs {ws : List Str} (h : ∀ z ∈ ws, WOk z) : ∃ p, (D.lst (ws.map .str)).py = some p ∧ SeqAt.shaped p = true := (sm_lst (sms_strs h)).sh
theorem NsOk.w {ns : List Str} (h : NsOk ns) : ∀ z ∈ ns, WOk z := fun z hz => name_w (h.nm z hz)
end DL
namespace DL
open PySem PySem.Spec PyProof.Rows L2
theorem EndsR.len {ns ys : List Str} {l : Lf} (h : EndsR ns l ys) : ys.length ≤ ns.length + 1 := by
  cases l with
  | place x a v w => rw [h.1.length_eq, List.length_append]; exact Nat.le_refl _
  | same a b => rw [show ys = _ from h]; exact Nat.le_trans (List.length_filter_le ..) (Nat.le_succ _)
  | forget a => rw [show ys = _ from h]; exact Nat.le_trans (List.length_filter_le ..) (Nat.le_succ _)
  | road => rw [show ys = ns from h]; exact Nat.le_succ _
  | cap => rw [show ys = ns from h]; exact Nat.le_succ _
  | scale => rw [show ys = ns from h]; exact Nat.le_succ _
  | turn => rw [show ys = ns from h]; exact Nat.le_succ _
  | round => rw [show ys = ns from h]; exact Nat.le_succ _
theorem EndsR.mem {m : Nat} {ns ys : List Str} {z : Str} {l : Lf} (h : EndsR ns l ys) (f : LfFit m ns z l) : ∀ e ∈ ys, e ∈ ns ∨ e = z := fun e he => by
  cases l with
  | place x a v w =>
    obtain ⟨rfl, _⟩ := f
    rcases List.mem_append.mp (h.1.mem_iff.mp he) with c | c
    · exact .inl c
    · exact .inr (List.mem_singleton.mp c)
  | same a b => rw [show ys = _ from h] at he; exact .inl (List.mem_filter.mp he).1
  | forget a => rw [show ys = _ from h] at he; exact .inl (List.mem_filter.mp he).1
  | road => rw [show ys = ns from h] at he; exact .inl he
  | cap => rw [show ys = ns from h] at he; exact .inl he
  | scale => rw [show ys = ns from h] at he; exact .inl he
  | turn => rw [show ys = ns from h] at he; exact .inl he
  | round => rw [show ys = ns from h] at he; exact .inl he
/-- the steps of a run, one by one, the results put together -/
theorem run_join {α β γ δ : Type} {o : Option α} {f : α → β} {g : α → γ} {h : α → δ} {b : β} {c : γ} {d : δ} (h1 : o.map f = some b) (h2 : o.map g = some c) (h3 : o.map h = some d) : o.map (fun x => (f x, g x, h x)) = some (b, c, d) := by
  cases o with
  | none => cases h1
  | some x =>
    have e1 : f x = b := Option.some.inj h1
    have e2 : g x = c := Option.some.inj h2
    have e3 : h x = d := Option.some.inj h3
    show some (f x, g x, h x) = _
    rw [e1, e2, e3]
/-- a step that keeps the names and puts in nothing -/
def StillL (m : Nat) (ns : List Str) : Lf → Prop
  | .road r ly a b v => LfFit m ns "" (.road r ly a b v)
  | .cap ly v => LfFit m ns "" (.cap ly v)
  | .scale ly v => LfFit m ns "" (.scale ly v)
  | .turn => True
  | .round ly => LyOk m ly
  | _ => False
theorem StillL.fit {m : Nat} {ns : List Str} {l : Lf} (h : StillL m ns l) : Stp.Fit m ns (.lf l) ns := by
  rw [Stp.Fit]
  refine ⟨⟨"", fun p => ?_, ?_⟩, ?_⟩
  · cases l with
    | place => exact h.elim
    | _ => exact p.elim
  · cases l with
    | road => exact h
    | cap => exact h
    | scale => exact h
    | turn => trivial
    | round => exact h
    | _ => exact h.elim
  · cases l with
    | place => exact h.elim
    | same => exact h.elim
    | forget => exact h.elim
    | _ => exact rfl
theorem still_fits {m : Nat} {ns : List Str} : ∀ {ls : List Lf}, (∀ l ∈ ls, StillL m ns l) → Stp.Fits m ns (ls.map .lf) ns
  | [], _ => by rw [List.map_nil, Stp.Fits]
  | l :: r, h => by
    rw [List.map_cons, Stp.Fits]
    exact ⟨ns, (h l (List.mem_cons_self ..)).fit, still_fits fun x hx => h x (List.mem_cons_of_mem _ hx)⟩
theorem ds_lf (ls : List Lf) : Stp.ds (ls.map .lf) = ls.map Lf.d := by
  rw [Stp.ds_map, List.map_map]
  refine List.map_congr_left fun l _ => ?_
  show (Stp.lf l).d = _
  rw [Stp.d]
theorem dps_lf : ∀ ls : List Lf, Stp.dps (ls.map .lf) = 0
  | [] => by rw [List.map_nil, Stp.dps]
  | l :: r => by rw [List.map_cons, Stp.dps, dps_lf r, Stp.dp]; rfl
theorem szs_lf : ∀ ls : List Lf, Stp.szs (ls.map .lf) = ls.length
  | [] => by rw [List.map_nil, Stp.szs]; rfl
  | l :: r => by rw [List.map_cons, Stp.szs, szs_lf r, Stp.sz, List.length_cons]; omega
theorem ds_app (p r : List Stp) : Stp.ds (p ++ r) = Stp.ds p ++ Stp.ds r := by rw [Stp.ds_map, Stp.ds_map, Stp.ds_map, List.map_append]
theorem dps_app : ∀ p r : List Stp, Stp.dps (p ++ r) = max (Stp.dps p) (Stp.dps r)
  | [], r => by rw [Stp.dps]; simp
  | s :: p, r => by rw [List.cons_append, Stp.dps, Stp.dps, dps_app p r]; omega
theorem szs_app : ∀ p r : List Stp, Stp.szs (p ++ r) = Stp.szs p + Stp.szs r
  | [], r => by rw [Stp.szs]; simp
  | s :: p, r => by rw [List.cons_append, Stp.szs, Stp.szs, szs_app p r]; omega
end DL
namespace DL
open PySem PySem.Spec PyProof.Rows L2
theorem cut_map {α : Type} (f : α → D) (xs : List α) (lo hi : Option Int) : cut (xs.map f) lo hi = (cut xs lo hi).map f := by
  unfold cut
  rw [List.length_map, List.map_take, List.map_drop]
theorem cut_from {α : Type} {xs : List α} {a : Nat} (h : a ≤ xs.length) (hi : Option Int) : ∃ k, cut xs (some (a : Int)) hi = (xs.drop a).take k ∧ k ≤ HT.sIx xs.length xs.length hi - a := by
  unfold cut
  rw [HT.sIx_nat, Nat.min_eq_left h]
  exact ⟨_, rfl, Nat.le_refl _⟩
/-- [";"] behind the first -/
def sepW (p : List Stp) : List Str := if p = [] then [] else [(";" : Str)]
theorem wss_len_mid {ss dn rest : List Stp} {s : Stp} (e : ss = dn ++ s :: rest) : (Stp.wss dn).length + (sepW dn).length + s.ws.length ≤ (Stp.wss ss).length := by
  have := congrArg (fun z => (Stp.wss z).length) e
  rw [Stp.wss_app] at this
  simp only [List.length_append] at this
  unfold sepW
  by_cases c : dn = []
  · rw [if_pos c, Stp.wss] at this
    simp only [List.length_append] at this
    rw [if_pos c]
    simp only [List.length_nil]
    omega
  · rw [if_neg c, Stp.wst] at this
    simp only [List.length_cons, List.length_append] at this
    rw [if_neg c]
    simp only [List.length_cons, List.length_nil]
    omega
end DL
namespace DL
theorem szs_ge : ∀ ss : List Stp, ss.length ≤ Stp.szs ss
  | [] => Nat.zero_le _
  | s :: r => by
    rw [Stp.szs, List.length_cons]
    have := szs_ge r
    have h : 1 ≤ s.sz := by cases s <;> rw [Stp.sz] <;> omega
    omega
end DL

set_option Elab.async false
set_option linter.all false
set_option maxRecDepth 100000
set_option autoImplicit false
set_option maxHeartbeats 2000000
/-! methods of texts; numbers in texts -/
namespace DL
open PySem PySem.Spec PyProof.Rows L2
def dM1 (rd : Str → Str → (DV → Prop) → Prop) (to te : TD) : TD := fun sl Q E => to sl (fun x s1 => match x with
  | .d (.str a) => te s1 (fun y s2 => match y with
    | .d (.str b) => rd a b fun z => Q z s2
    | _ => False) E
  | _ => False) E
def M1Sem (K : PySem.W.Frag) (r : V → List V → Hp → VK → Prop) (rd : Str → Str → (DV → Prop) → Prop) : Prop := ∀ (G : Hp) (so : So) (H : Hp) (a b : Str) (Q : DV → Prop) (R : VK), HRep K G so H → rd a b Q →
  (∀ v H' G' dv, PostV K G so H v H' G' dv → Q dv → R v H') → r (.str a) [.str b] H R
section
variable {X : Cx} {W : WX} {o e : Expr} {to te : TD} {apos pos : Pos}
theorem de_m1 {id : String} {name : Str} {r : V → List V → Hp → VK → Prop} {rd : Str → Str → (DV → Prop) → Prop} (slot : Slot "str" name id) (ty : typeOf (.builtin id) = pure (.type "method_descriptor")) (rule : MtR X id r) (hr : M1Sem X.K r rd) (ho : DE X W o to) (he : DE X W e te)
    (hs : starEach [e] X.env = [(false, eval e X.env)] := by rfl) (hbase : attributeBase o name X.env (eval o X.env) = eval o X.env := by rfl) (hline : (apos.endLine == pos.line) = true := by rfl) :
    DE X W (.Call (.Attribute o name apos) [e] [] pos) (dM1 rd to te) := by
  refine pe_imp (pe_m1 slot ty rule ho he hs hbase hline) fun σ H R ⟨G, so, sl, Q, E, rep, q, hq, hx⟩ => ?_
  refine ⟨G, so, sl, _, E, rep, q, fun x H1 G1 dx s1 p1 h1 => ?_, hx⟩
  split at h1
  · rename_i a
    have w := p1.val
    cases w
    refine ⟨⟨a, rfl⟩, G1, so, s1, _, E, p1.rep, h1, fun y H2 G2 dy s2 p2 h2 => ?_, hx.step p1.toPost⟩
    split at h2
    · rename_i b
      have w2 := p2.val
      cases w2
      exact hr G2 so H2 a b _ _ p2.rep.h h2 fun v H' G' dv pv z => hq v H' G' dv s2 ((p1.toPost.trans p2.toPost).thenV pv) z
    · exact h2.elim
  · exact h1.elim
end
section
variable {K : PySem.W.Frag}
@[irreducible] def splitR (a b : Str) (Q : DV → Prop) : Prop := (b.length == 0) = false ∧ a.length + 2 ≤ szl ∧ Q (.own (.lst ((Txt.split a b).map .str)))
@[irreducible] def partR (a b : Str) (Q : DV → Prop) : Prop := (b.length == 0) = false ∧ a.length ≤ szl ∧ Q (.d (.tup [.str (Txt.partition a b).1, .str (Txt.partition a b).2.1, .str (Txt.partition a b).2.2]))
@[irreducible] def startR (a b : Str) (Q : DV → Prop) : Prop := Q (.d (.bl (Txt.startswith a b)))
@[irreducible] def remR (a b : Str) (Q : DV → Prop) : Prop := a.length ≤ szl ∧ Q (.d (.str (Txt.removeprefix a b)))
theorem sem_split : M1Sem K (fun x xs H Q => ∃ a b, x = .str a ∧ xs = [.str b] ∧ (b.length == 0) = false ∧ a.length + 2 ≤ sizeLine ∧ rNewStrs (Txt.split a b) H Q) splitR := fun G so H a b Q R h q k => by
  unfold splitR at q
  exact ⟨a, b, rfl, rfl, q.1, by rw [← szl_eq]; exact q.2.1, fun p n => k _ _ G _ (.list h n (DAll.strs _)) q.2.2⟩
theorem sem_partition : M1Sem K (fun x xs H Q => ∃ a b, x = .str a ∧ xs = [.str b] ∧ (b.length == 0) = false ∧ a.length ≤ sizeLine ∧
    ∀ p, H p = none → Q (.ref p) (upd H p (.tup [.str (Txt.partition a b).1, .str (Txt.partition a b).2.1, .str (Txt.partition a b).2.2]))) partR := fun G so H a b Q R h q k => by
  unfold partR at q
  exact ⟨a, b, rfl, rfl, q.1, by rw [← szl_eq]; exact q.2.1, fun p n => k _ _ _ _ (.tuple h n (.cons (.str _) (.cons (.str _) (.cons (.str _) .nil)))) q.2.2⟩
theorem sem_startswith : M1Sem K (fun x xs H Q => ∃ a b, x = .str a ∧ xs = [.str b] ∧ Q (.bl (Txt.startswith a b)) H) startR := fun G so H a b Q R h q k => by
  unfold startR at q
  exact ⟨a, b, rfl, rfl, k _ H G _ (.dat h (.bl _)) q⟩
theorem sem_removeprefix : M1Sem K (fun x xs H Q => ∃ a b, x = .str a ∧ xs = [.str b] ∧ a.length ≤ sizeLine ∧ Q (.str (Txt.removeprefix a b)) H) remR := fun G so H a b Q R h q k => by
  unfold remR at q
  exact ⟨a, b, rfl, rfl, by rw [← szl_eq]; exact q.1, k _ H G _ (.dat h (.str _)) q.2⟩
/-- int(text) -/
@[irreducible] def intSR : List DV → (DV → Prop) → Prop
  | [.d (.str a)], Q => ∃ n, PySem.intText? a = some n ∧ a.length ≤ 640 ∧ Q (.d (.int n))
  | _, _ => False
theorem sem_intS : CallSem K (fun xs H Q => ∃ a n, xs = [.str a] ∧ PySem.intText? a = some n ∧ a.length ≤ 640 ∧ Q (.int n) H) intSR := by
  intro G so H xs dxs Q R h w q k
  unfold intSR at q
  split at q
  · obtain ⟨v, rfl, w1, _⟩ := w.v1
    cases w1
    obtain ⟨n, e1, e2, q⟩ := q
    exact ⟨_, n, rfl, e1, e2, k _ H G _ (.dat h (.int _)) q⟩
  · exact q.elim
end
theorem l_split {a b : Str} {Q : DV → Prop} (h : (b.length == 0) = false) (hl : a.length + 2 ≤ szl) (q : Q (.own (.lst ((Txt.split a b).map .str)))) : splitR a b Q := by unfold splitR; exact ⟨h, hl, q⟩
theorem l_part {a b x y z : Str} {Q : DV → Prop} (h : (b.length == 0) = false) (hl : a.length ≤ szl) (e : Txt.partition a b = (x, y, z)) (q : Q (.d (.tup [.str x, .str y, .str z]))) : partR a b Q := by unfold partR; rw [e]; exact ⟨h, hl, q⟩
theorem l_start {a b : Str} {Q : DV → Prop} (q : Q (.d (.bl (Txt.startswith a b)))) : startR a b Q := by unfold startR; exact q
theorem l_rem {a b : Str} {Q : DV → Prop} (hl : a.length ≤ szl) (q : Q (.d (.str (Txt.removeprefix a b)))) : remR a b Q := by unfold remR; exact ⟨hl, q⟩
theorem l_intS {a : Str} {n : Int} {Q : DV → Prop} (h : PySem.intText? a = some n) (hl : a.length ≤ 640) (q : Q (.d (.int n))) : intSR [.d (.str a)] Q := by unfold intSR; exact ⟨n, h, hl, q⟩
end DL

set_option Elab.async false
set_option linter.all false
set_option maxRecDepth 100000
set_option autoImplicit false
set_option maxHeartbeats 2000000
/-! numbers in texts -/
namespace DL
open PySem PySem.Spec PyProof.Rows L2
abbrev tl (x : Str) : List Nat := TL.tl x
theorem ext_tl {x y : Str} (h : tl x = tl y) : x = y := TL.ext_tl h
def isDig (c : Nat) : Bool := decide (48 ≤ c) && decide (c ≤ 57)
/-- figures without a needless zero -/
def canonB (l : List Nat) : Bool := !l.isEmpty && l.all isDig && (l == [48] || !(l.head? == some 48))
theorem all_dig {l : List Nat} (h : l.all isDig = true) : NumText.AllDigits l := fun c hc => by
  have := List.all_eq_true.mp h c hc
  simpa [isDig] using this
theorem dig_all {l : List Nat} (h : NumText.AllDigits l) : l.all isDig = true := List.all_eq_true.mpr fun c hc => by
  have := h c hc
  simp [isDig, this]
theorem rev_ind {P : List Nat → Prop} (h0 : P []) (h1 : ∀ l c, P l → P (l ++ [c])) (l : List Nat) : P l := by
  have go : ∀ r : List Nat, P r.reverse := fun r => by
    induction r with
    | nil => exact h0
    | cons c r ih => rw [List.reverse_cons]; exact h1 _ c ih
  have := go l.reverse
  rwa [List.reverse_reverse] at this
theorem first_occ {c : Nat} : ∀ {l : List Nat}, c ∈ l → ∃ p r, l = p ++ c :: r ∧ c ∉ p
  | [], h => by cases h
  | a :: l, h => by
    by_cases e : a = c
    · subst e; exact ⟨[], l, rfl, by simp⟩
    · rcases List.mem_cons.mp h with z | z
      · exact absurd z.symm e
      · obtain ⟨p, r, e1, e2⟩ := first_occ z
        exact ⟨a :: p, r, by rw [e1]; rfl, fun m => by
          rcases List.mem_cons.mp m with q | q
          · exact e q.symm
          · exact e2 q⟩
theorem val_snoc (l : List Nat) (c : Nat) : NumText.digitsVal (l ++ [c]) = NumText.digitsVal l * 10 + (c - 48) := by
  unfold NumText.digitsVal
  rw [List.foldl_append]; rfl
theorem head_ne {l : List Nat} (hd : l.all isDig = true) (hne : l ≠ []) (hh : l.head? ≠ some 48) : 1 ≤ NumText.digitsVal l ∧ TL.numL (NumText.digitsVal l) = l := by
  revert hd hne hh
  refine rev_ind (P := fun l => l.all isDig = true → l ≠ [] → l.head? ≠ some 48 → 1 ≤ NumText.digitsVal l ∧ TL.numL (NumText.digitsVal l) = l) (fun _ h _ => absurd rfl h) (fun init c ih hd hne hh => ?_) l
  rw [List.all_append, Bool.and_eq_true] at hd
  have hc : 48 ≤ c ∧ c ≤ 57 := by simpa [isDig] using hd.2
  rw [val_snoc]
  by_cases e : init = []
  · subst e
    have e0 : NumText.digitsVal [] = 0 := rfl
    have c48 : c ≠ 48 := fun z => hh (by simp [z])
    rw [e0, Nat.zero_mul, Nat.zero_add]
    refine ⟨by omega, ?_⟩
    rw [TL.numL_lt (by omega), List.nil_append]
    congr 1; omega
  · have hi : init.head? ≠ some 48 := fun z => hh (by
      cases init with
      | nil => exact absurd rfl e
      | cons a r => simpa using z)
    obtain ⟨h1, h2⟩ := ih hd.1 e hi
    refine ⟨by omega, ?_⟩
    rw [TL.numL_step (by omega)]
    have e1 : (NumText.digitsVal init * 10 + (c - 48)) / 10 = NumText.digitsVal init := by omega
    have e2 : 48 + (NumText.digitsVal init * 10 + (c - 48)) % 10 = c := by omega
    rw [e1, e2, h2]
theorem canon_num {l : List Nat} (h : canonB l = true) : TL.numL (NumText.digitsVal l) = l := by
  unfold canonB at h
  simp only [Bool.and_eq_true, Bool.or_eq_true, Bool.not_eq_true', beq_iff_eq, beq_eq_false_iff_ne] at h
  obtain ⟨⟨h1, h2⟩, h3⟩ := h
  have hne : l ≠ [] := fun z => by rw [z] at h1; cases h1
  rcases h3 with rfl | h3
  · rw [show NumText.digitsVal [48] = 0 from rfl, TL.numL_lt (by decide)]
  · exact (head_ne h2 hne h3).2
theorem num_head {n : Nat} (h : 1 ≤ n) : (TL.numL n).head? ≠ some 48 := by
  induction n using Nat.strongRecOn with
  | _ n ih =>
    by_cases h10 : n < 10
    · rw [TL.numL_lt h10]
      simp; omega
    · rw [TL.numL_step (by omega)]
      have := ih (n / 10) (by omega) (by omega)
      cases e : TL.numL (n / 10) with
      | nil => exact absurd e (TL.numL_ne _)
      | cons a r => rw [e] at this; simpa using this
theorem num_canon (n : Nat) : canonB (TL.numL n) = true := by
  unfold canonB
  have h1 : (TL.numL n).isEmpty = false := by
    cases e : TL.numL n with
    | nil => exact absurd e (TL.numL_ne n)
    | cons => rfl
  have h2 : (TL.numL n).all isDig = true := dig_all (TL.numL_digits n)
  rw [h1, h2]
  by_cases h : n = 0
  · subst h; rw [TL.numL_lt (by decide)]; rfl
  · have := num_head (n := n) (by omega)
    simp [this]
theorem int_canon {x : Str} (h : canonB (tl x) = true) (hl : x.length ≤ 640) : PySem.intText? x = some ((NumText.digitsVal (tl x) : Nat) : Int) := by
  have e : x = Str.ofString (toString ((NumText.digitsVal (tl x) : Nat) : Int)) := ext_tl (by
    show tl x = TL.tl _
    rw [TL.tl_num, canon_num h])
  have := TL.int_num (n := NumText.digitsVal (tl x)) (by
    rw [canon_num h]
    have : (tl x).length = x.length := (TL.len_tl x).symm
    omega)
  rw [← e] at this
  exact this
theorem val_lt {l : List Nat} (h : l.all isDig = true) : NumText.digitsVal l < 10 ^ l.length := by
  revert h
  refine rev_ind (P := fun l => l.all isDig = true → NumText.digitsVal l < 10 ^ l.length) (fun _ => by decide) (fun init c ih h => ?_) l
  · rw [List.all_append, Bool.and_eq_true] at h
    have hc : 48 ≤ c ∧ c ≤ 57 := by simpa [isDig] using h.2
    have := ih h.1
    rw [val_snoc, List.length_append, List.length_singleton, Nat.pow_succ]
    omega
theorem canon_dig {l : List Nat} (h : canonB l = true) : l.all isDig = true ∧ l ≠ [] := by
  unfold canonB at h
  simp only [Bool.and_eq_true, Bool.not_eq_true'] at h
  exact ⟨h.1.2, fun z => by rw [z] at h; exact absurd h.1.1 (by decide)⟩
/-! signs -/
def sgL (i : Int) : List Nat := if i < 0 then [45] else []
theorem tl_numS (i : Int) : tl (numS i) = sgL i ++ TL.numL i.natAbs := by
  unfold sgL
  cases i with
  | ofNat n =>
    rw [if_neg (by show ¬ ((n : Nat) : Int) < 0; omega)]
    show TL.tl (Str.ofString (toString ((n : Nat) : Int))) = _
    rw [TL.tl_num]; rfl
  | negSucc m =>
    rw [if_pos (Int.negSucc_lt_zero m)]
    have e2 : (toString (Int.negSucc m) : String) = "-" ++ toString ((m + 1 : Nat) : Int) := rfl
    have e3 : numS (Int.negSucc m) = ("-" : Str) ++ Str.ofString (toString ((m + 1 : Nat) : Int)) := by
      refine ext_tl ?_
      show TL.tl (Str.ofString (toString (Int.negSucc m))) = _
      rw [e2, TL.tl_ofString, String.toList_append, List.map_append, show tl (("-" : Str) ++ Str.ofString (toString ((m + 1 : Nat) : Int))) = TL.tl ("-" : Str) ++ TL.tl (Str.ofString (toString ((m + 1 : Nat) : Int))) from TL.tl_append _ _, TL.tl_ofString, TL.tl_ofString]
    rw [e3]
    show TL.tl (("-" : Str) ++ _) = _
    rw [TL.tl_append, TL.tl_num]; rfl
def denL (q : Rat) : List Nat := if (q.den : Int) = 1 then [] else 47 :: TL.numL q.den
theorem tl_ratS (q : Rat) : tl (ratS q) = sgL q.num ++ TL.numL q.num.natAbs ++ denL q := by
  unfold ratS denL
  by_cases e : (q.den : Int) = 1
  · rw [if_pos e, if_pos e, List.append_nil]; exact tl_numS _
  · rw [if_neg e, if_neg e]
    show TL.tl (numS q.num ++ ("/" : Str) ++ numS (q.den : Int)) = _
    rw [TL.tl_append, TL.tl_append, show TL.tl (numS q.num) = _ from tl_numS q.num, show TL.tl (numS (q.den : Int)) = _ from tl_numS (q.den : Int)]
    unfold sgL
    rw [if_neg (by omega : ¬ (q.den : Int) < 0), List.nil_append, List.append_assoc]
    rfl
theorem sgn_free {n : Int} : (47 : Nat) ∉ sgL n ++ TL.numL n.natAbs := fun h => by
  rcases List.mem_append.mp h with h | h
  · unfold sgL at h
    split at h
    · simp at h
    · cases h
  · exact TL.numL_free (by omega) h
/-! the first stroke -/
theorem slash_or (x : Str) : 47 ∉ tl x ∨ ∃ a b : Str, x = a ++ ("/" : Str) ++ b ∧ 47 ∉ tl a := by
  by_cases h : 47 ∈ tl x
  · obtain ⟨p, r, e, hp⟩ := first_occ h
    refine .inr ⟨⟨p.toArray⟩, ⟨r.toArray⟩, ext_tl ?_, by show 47 ∉ TL.tl ⟨p.toArray⟩; rw [TL.tl_mk]; exact hp⟩
    show tl x = TL.tl (_ ++ _ ++ _)
    rw [TL.tl_append, TL.tl_append, TL.tl_mk, TL.tl_mk, e]
    show _ = p ++ [47] ++ r
    simp
  · exact .inl h
theorem start_minus (x : Str) : Txt.startswith x "-" = ((tl x).head? == some 45) := by
  unfold Txt.startswith
  rw [StrLaws.subAt_eq]
  show (decide (0 + 1 ≤ x.length) && (((TL.tl x).drop 0).take 1 == [45])) = ((TL.tl x).head? == some 45)
  rw [TL.len_tl x]
  cases TL.tl x with
  | nil => rfl
  | cons a r => simp
theorem rem_minus (x : Str) : tl (Txt.removeprefix x "-") = if (tl x).head? = some 45 then (tl x).tail else tl x := by
  unfold Txt.removeprefix
  rw [StrLaws.subAt_eq]
  show tl (Txt.affix x (if (((TL.tl x).drop 0).take 1 == [45]) = true then some (1, x.length) else none)) = _
  cases e : TL.tl x with
  | nil =>
    have : ((([] : List Nat).drop 0).take 1 == [45]) = false := rfl
    rw [this]
    show tl x = _
    rw [show tl x = [] from e]; rfl
  | cons a r =>
    by_cases ea : a = 45
    · subst ea
      have h1 : (((45 :: r).drop 0).take 1 == [45]) = true := by simp
      have h2 : (tl x).head? = some 45 := by rw [show tl x = 45 :: r from e]; rfl
      rw [if_pos h1, if_pos h2]
      show tl (if x.length - 1 == x.length then x else Builtin.Str.strSub x 1 x.length) = _
      have hl : x.length = r.length + 1 := by rw [TL.len_tl, e]; rfl
      rw [if_neg (by rw [hl]; simp)]
      show TL.tl (Builtin.Str.strSub x 1 x.length) = _
      rw [TL.tl_strSub_end, show tl x = 45 :: r from e, e]; rfl
    · have h1 : ¬ ((((a :: r).drop 0).take 1 == [45]) = true) := by simpa using ea
      have h2 : ¬ (tl x).head? = some 45 := by rw [show tl x = a :: r from e]; simpa using ea
      rw [if_neg h1, if_neg h2]
      rfl
end DL
namespace DL
open PySem PySem.Spec PyProof.Rows L2
theorem fig_mem (c : Nat) : decide (c ∈ ("0123456789" : Str).cps.toList) = isDig c := by
  have e : ("0123456789" : Str).cps.toList = [48, 49, 50, 51, 52, 53, 54, 55, 56, 57] := by decide +kernel
  rw [e]
  unfold isDig
  rw [← Bool.decide_and]
  refine decide_eq_decide.mpr ?_
  simp only [List.mem_cons, List.not_mem_nil, or_false]
  omega
/-- the number that figures write, at most sixty of them -/
def fp (l : List Nat) : Option Nat := if l.length ≤ 60 ∧ canonB l = true then some (NumText.digitsVal l) else none
def optD : Option Nat → D
  | some n => .int (n : Int)
  | none => .non
def stripL (l : List Nat) : List Nat := if l.head? = some 45 then l.tail else l
structure ShortQ (q : Rat) : Prop where
  n : q.num.natAbs < 10 ^ 60
  d : q.den < 10 ^ 60
theorem fp_num {n : Nat} (h : n < 10 ^ 60) : fp (TL.numL n) = some n := by
  unfold fp
  rw [if_pos ⟨TL.numL_len (by decide) h, num_canon n⟩, TL.numL_val]
theorem num_head45 (n : Nat) : (TL.numL n).head? ≠ some 45 := fun h => by
  cases e : TL.numL n with
  | nil => exact TL.numL_ne n e
  | cons a r =>
    rw [e] at h
    have : a = 45 := by simpa using h
    have d := TL.numL_digits n a (by rw [e]; exact List.mem_cons_self ..)
    omega
theorem strip_sg (n : Int) : stripL (sgL n ++ TL.numL n.natAbs) = TL.numL n.natAbs ∧ ((sgL n ++ TL.numL n.natAbs).head? = some 45 ↔ n < 0) := by
  unfold sgL stripL
  by_cases h : n < 0
  · rw [if_pos h]
    exact ⟨by simp, by simp [h]⟩
  · rw [if_neg h]
    rw [List.nil_append, if_neg (num_head45 _)]
    exact ⟨rfl, ⟨fun z => absurd z (num_head45 _), fun z => absurd z h⟩⟩
/-- what a text is cut to that a ratio writes -/
theorem yesA {t : Str} {q : Rat} (h : 47 ∉ tl t) (e : ratS q = t) : tl t = sgL q.num ++ TL.numL q.num.natAbs ∧ (q.den : Int) = 1 := by
  have e2 : tl t = sgL q.num ++ TL.numL q.num.natAbs ++ denL q := by rw [← e]; exact tl_ratS q
  unfold denL at e2
  by_cases d : (q.den : Int) = 1
  · rw [if_pos d, List.append_nil] at e2; exact ⟨e2, d⟩
  · rw [if_neg d] at e2
    exact absurd (by rw [e2]; simp) h
theorem split_uniq {c : Nat} : ∀ {p p' r r' : List Nat}, c ∉ p → c ∉ p' → p ++ c :: r = p' ++ c :: r' → p = p' ∧ r = r'
  | [], [], r, r', _, _, e => by simpa using e
  | [], a :: p', r, r', _, h, e => by
    have : c = a := by simpa using (List.cons.inj e).1
    exact absurd (by rw [this]; simp) h
  | a :: p, [], r, r', h, _, e => by
    have : a = c := by simpa using (List.cons.inj e).1
    exact absurd (by rw [this]; simp) h
  | a :: p, b :: p', r, r', h, h', e => by
    have e1 : a = b := (List.cons.inj e).1
    have e2 : p ++ c :: r = p' ++ c :: r' := (List.cons.inj e).2
    obtain ⟨x, y⟩ := split_uniq (fun m => h (List.mem_cons_of_mem _ m)) (fun m => h' (List.mem_cons_of_mem _ m)) e2
    exact ⟨by rw [e1, x], y⟩
theorem tl_slash (a b : Str) : tl (a ++ ("/" : Str) ++ b) = tl a ++ 47 :: tl b := by
  show TL.tl (a ++ ("/" : Str) ++ b) = _
  rw [TL.tl_append, TL.tl_append]
  show TL.tl a ++ [47] ++ TL.tl b = _
  simp
theorem yesB {a b : Str} {q : Rat} (h : 47 ∉ tl a) (e : ratS q = a ++ ("/" : Str) ++ b) : tl a = sgL q.num ++ TL.numL q.num.natAbs ∧ tl b = TL.numL q.den ∧ (q.den : Int) ≠ 1 := by
  have e2 : tl a ++ 47 :: tl b = sgL q.num ++ TL.numL q.num.natAbs ++ denL q := by rw [← tl_slash, ← e]; exact tl_ratS q
  unfold denL at e2
  by_cases d : (q.den : Int) = 1
  · rw [if_pos d, List.append_nil] at e2
    exact absurd (by rw [← e2]; simp) (sgn_free (n := q.num))
  · rw [if_neg d] at e2
    obtain ⟨x, y⟩ := split_uniq h sgn_free e2
    exact ⟨x, y, d⟩
/-- what the law's and the program's reading find -/
def partF (t top stroke bottom : Str) : Prop := ∀ q, ratS q = t → ShortQ q → fp (stripL (tl top)) = some q.num.natAbs ∧ (if stroke = "" then some 1 else fp (tl bottom)) = some q.den ∧ ((tl top).head? = some 45 ↔ q.num < 0)
theorem partF_A {t : Str} (h : 47 ∉ tl t) : partF t t "" "" := fun q e s => by
  obtain ⟨e1, d⟩ := yesA h e
  obtain ⟨s1, s2⟩ := strip_sg q.num
  rw [e1, s1]
  exact ⟨fp_num s.n, by rw [if_pos rfl]; congr 1; omega, s2⟩
theorem partF_B {a b : Str} (h : 47 ∉ tl a) : partF (a ++ ("/" : Str) ++ b) a "/" b := fun q e s => by
  obtain ⟨e1, e2, d⟩ := yesB h e
  obtain ⟨s1, s2⟩ := strip_sg q.num
  rw [e1, s1, e2]
  exact ⟨fp_num s.n, by rw [if_neg (by decide)]; exact fp_num s.d, s2⟩
theorem len_tl (x : Str) : x.length = (tl x).length := TL.len_tl x
theorem rem_len (x : Str) : (Txt.removeprefix x "-").length ≤ x.length := by
  rw [len_tl, len_tl, rem_minus]
  split
  · rw [List.length_tail]; omega
  · exact Nat.le_refl _
theorem fp_lt {l : List Nat} {n : Nat} (h : fp l = some n) : n < 10 ^ 60 := by
  unfold fp at h
  split at h
  · rename_i c
    cases h
    exact Nat.lt_of_lt_of_le (val_lt (canon_dig c.2).1) (Nat.pow_le_pow_right (by decide) c.1)
  · cases h
end DL
namespace DL
open PySem PySem.Spec PyProof.Rows L2
theorem wd_tl (x : Str) : wd (tl x) = x := ext_tl (by show TL.tl ⟨(TL.tl x).toArray⟩ = TL.tl x; rw [TL.tl_mk])
theorem cut1 (a : Str) : cutS a none (some 1) = "-" ↔ (tl a).head? = some 45 := by
  have e := wd_tl a
  cases h : tl a with
  | nil =>
    rw [h] at e
    rw [← e]
    constructor
    · intro z; exact absurd z (by decide +kernel)
    · intro z; cases z
  | cons c r =>
    rw [h] at e
    have := cutS_take (cs := c :: r) (k := 1) (by simp)
    rw [e] at this
    rw [show (some (1 : Int)) = some ((1 : Nat) : Int) from rfl, this]
    constructor
    · intro z
      have := congrArg tl z
      have e2 : tl ("-" : Str) = [45] := by decide +kernel
      rw [e2] at this
      have e3 : tl (wd ((c :: r).take 1)) = [c] := TL.tl_mk _
      rw [e3] at this
      simpa using this
    · intro z
      have : c = 45 := by simpa using z
      rw [this]
      show wd [45] = "-"
      decide +kernel
theorem cutd {a : Str} (h : (tl a).head? = some 45) : tl (cutS a (some 1) none) = (tl a).tail := by
  have e := wd_tl a
  cases h2 : tl a with
  | nil => rw [h2] at h; cases h
  | cons c r =>
    rw [h2] at e
    have := cutS_drop (cs := c :: r) (k := 1) (by simp)
    rw [e] at this
    rw [show (some (1 : Int)) = some ((1 : Nat) : Int) from rfl, this]
    exact TL.tl_mk _
theorem ratS_of {q : Rat} {t : Str} (h : tl t = sgL q.num ++ TL.numL q.num.natAbs ++ denL q) : ratS q = t := ext_tl (by rw [tl_ratS, h])
theorem comp_sg {la : List Nat} {n : Int} {v : Nat} (hc : canonB (stripL la) = true) (hv : v = NumText.digitsVal (stripL la)) (hn : n = if la.head? = some 45 then -(v : Int) else (v : Int)) (h0 : n = 0 → la.head? ≠ some 45) : la = sgL n ++ TL.numL n.natAbs := by
  have nv : n.natAbs = v := by rw [hn]; split <;> omega
  rw [nv, hv, canon_num hc]
  by_cases c : la.head? = some 45
  · rw [if_pos c] at hn
    have : n < 0 := by
      have : n ≠ 0 := fun z => h0 z c
      omega
    unfold sgL stripL
    rw [if_pos this, if_pos c]
    cases la with
    | nil => cases c
    | cons a r => have : a = 45 := by simpa using c
                  rw [this]; rfl
  · rw [if_neg c] at hn
    unfold sgL stripL
    rw [if_neg (show ¬ n < 0 by omega), if_neg c]; rfl
theorem num0_den {q : Rat} (h : q.num = 0) : (q.den : Int) = 1 := by
  have := q.reduced
  rw [h] at this
  unfold Nat.Coprime at this
  rw [show (0 : Int).natAbs = 0 from rfl, Nat.gcd_zero_left] at this
  omega
/-- the parts of a text at its strokes -/
structure PartL (t a : Str) (rest : List Str) : Prop where
  len : a.length ≤ t.length
  ok : okS t → okS a
  cs : (rest = [] ∧ t = a ∧ 47 ∉ tl a) ∨ (∃ b, rest = [b] ∧ t = a ++ ("/" : Str) ++ b ∧ 47 ∉ tl a) ∨ (2 ≤ rest.length ∧ ∀ q, ratS q = t → False)
theorem spl1 {p r : List Nat} (h : 47 ∉ p) : TL.spl [47] 0 [] (p ++ 47 :: r) = p :: TL.spl [47] 0 [] r := by
  have := TL.spl_part1 (s := 47) (S := []) (p := p) (rest := r) (acc := []) h
  simpa using this
theorem spl_ne (x : Str) : TL.spl [47] 0 [] (tl x) ≠ [] := by
  rcases slash_or x with h | ⟨a, b, e, h⟩
  · rw [TL.spl_last1 h]; simp
  · rw [e, tl_slash, spl1 h]; simp
theorem spl_of (x : Str) : (Txt.split x "/").map TL.tl = TL.spl [47] 0 [] (tl x) := by
  have e : TL.tl ("/" : Str) = [47] := by decide +kernel
  have := TL.split_spl x "/" (by rw [e]; simp) (TL.kind_ok (by decide +kernel))
  rw [e] at this; exact this
theorem split_cases (t : Str) : ∃ a rest, Txt.split t "/" = a :: rest ∧ PartL t a rest := by
  have h := spl_of t
  rcases slash_or t with ns | ⟨a, b, e, ns⟩
  · rw [TL.spl_last1 ns] at h
    have h2 : Txt.split t "/" = [t] := TL.map_tl_inj (by rw [h]; rfl)
    exact ⟨t, [], h2, Nat.le_refl _, fun k => k, .inl ⟨rfl, rfl, ns⟩⟩
  · have la : a.length ≤ t.length := by rw [e, str_app_len, str_app_len]; omega
    have oa : okS t → okS a := fun k c hc => k c (by rw [e]; show c ∈ tl (a ++ ("/" : Str) ++ b); rw [tl_slash]; exact List.mem_append_left _ hc)
    rw [e, tl_slash, spl1 ns] at h
    rcases slash_or b with nb | ⟨c, d, e2, nc⟩
    · rw [TL.spl_last1 nb] at h
      have h2 : Txt.split t "/" = [a, b] := TL.map_tl_inj (by rw [e, h]; rfl)
      exact ⟨a, [b], h2, la, oa, .inr (.inl ⟨b, rfl, e, ns⟩)⟩
    · rw [e2, tl_slash, spl1 nc] at h
      have hd := spl_ne d
      cases q : TL.spl [47] 0 [] (tl d) with
      | nil => exact absurd q hd
      | cons x y =>
        rw [q] at h
        cases z : Txt.split t "/" with
        | nil => rw [e, e2] at z; rw [z] at h; cases h
        | cons x0 rs =>
          rw [← e2, ← e, z] at h
          simp only [List.map_cons, List.nil_append, List.cons.injEq] at h
          have e3 : x0 = a := ext_tl h.1
          subst e3
          refine ⟨x0, rs, rfl, la, oa, .inr (.inr ⟨?_, fun q hq => ?_⟩)⟩
          · have := congrArg List.length h.2
            simp at this
            omega
          · rw [e] at hq
            obtain ⟨_, h5, _⟩ := yesB ns hq
            have : 47 ∈ tl b := by rw [e2, tl_slash]; simp
            rw [h5] at this
            exact TL.numL_free (by omega) this
end DL
namespace DL
open PySem PySem.Spec PyProof.Rows L2
/-! ### text * number -/
theorem op_mulS {X : Cx} : OpR X (binaryOp .Mult) (fun x y H Q => ∃ a n, x = .str a ∧ y = .int n ∧ MulOk a n ∧ Q (.str (Txt.mul a n)) H) := by
  intro pins s σ H x y v u Q I rx ry h
  obtain ⟨a, n, rfl, rfl, ok, q⟩ := h
  obtain ⟨t, rfl⟩ := rx
  obtain ⟨t', rfl⟩ := ry
  exact SB.mul ok fun t' k => ⟨.str _, H, I.tok _, ⟨_, rfl⟩, q⟩
@[irreducible] def mulSR : DV → DV → (DV → Prop) → Prop
  | .d (.str a), .d (.int n), Q => MulOk a n ∧ Q (.d (.str (Txt.mul a n)))
  | _, _, _ => False
theorem sem_mulS {K : PySem.W.Frag} : OpSem K (fun x y H Q => ∃ a n, x = .str a ∧ y = .int n ∧ MulOk a n ∧ Q (.str (Txt.mul a n)) H) mulSR := by
  intro G so H x y dx dy Q R h wx wy q k
  unfold mulSR at q
  split at q
  · cases wx
    cases wy
    exact ⟨_, _, rfl, rfl, q.1, k _ H G _ (.dat h (.str _)) q.2⟩
  · exact q.elim
theorem de_mulS {X : Cx} {W : WX} {a b : Expr} {ta tb : TD} {pos : Pos} (ha : DE X W a ta) (hb : DE X W b tb) : DE X W (.BinOp a .Mult b pos) (dOp mulSR ta tb) := de_op op_mulS sem_mulS ha hb
theorem l_mulS {a : Str} {n : Int} {Q : DV → Prop} (h : MulOk a n) (q : Q (.d (.str (Txt.mul a n)))) : mulSR (.d (.str a)) (.d (.int n)) Q := by unfold mulSR; exact ⟨h, q⟩
/-! ### cuts, ratios by their texts -/
theorem cutS_ok (z : Str) (lo hi : Option Int) : (cutS z lo hi).length ≤ z.length ∧ (okS z → okS (cutS z lo hi)) := by
  refine ⟨?_, fun h c hc => ?_⟩
  · rw [len_tl, len_tl]
    show (TL.tl (cutS z lo hi)).length ≤ (TL.tl z).length
    unfold cutS
    rw [TL.tl_mk, List.length_take, List.length_drop]
    show _ ≤ z.cps.toList.length
    omega
  · have : c ∈ TL.tl (cutS z lo hi) := hc
    unfold cutS at this
    rw [TL.tl_mk] at this
    exact h c (List.mem_of_mem_drop (List.mem_of_mem_take this))
theorem ratS_len {q : Rat} {b : Nat} (h1 : q.num.natAbs < 10 ^ b) (h2 : q.den < 10 ^ b) (hb : 0 < b) (hb2 : b ≤ 500) : (ratS q).length ≤ 2 * b + 3 ∧ okS (ratS q) := by
  have a : (numS q.num).length ≤ b + 1 := int_len h1 hb hb2
  have c : (numS (q.den : Int)).length ≤ b + 1 := int_len (i := (q.den : Int)) (by simpa using h2) hb hb2
  have e : (("/" : String) : Str).length = 1 := by decide
  unfold ratS
  split
  · exact ⟨by omega, ok_of _⟩
  · refine ⟨?_, ok_app (ok_app (ok_of _) (ok_of "/")) (ok_of _)⟩
    rw [str_app_len, str_app_len]
    omega
theorem sg_inj {m n : Int} (h : sgL m ++ TL.numL m.natAbs = sgL n ++ TL.numL n.natAbs) : m = n := by
  obtain ⟨a1, a2⟩ := strip_sg m
  obtain ⟨b1, b2⟩ := strip_sg n
  rw [h] at a1 a2
  have e := TL.numL_inj (a1.symm.trans b1)
  have : m < 0 ↔ n < 0 := a2.symm.trans b2
  omega
theorem ratS_inj {p q : Rat} (h : ratS p = ratS q) : p = q := by
  have e : p.num = q.num ∧ p.den = q.den := by
    rcases slash_or (ratS q) with ns | ⟨a, b, e, ns⟩
    · obtain ⟨x1, x2⟩ := yesA ns h
      obtain ⟨y1, y2⟩ := yesA ns rfl
      exact ⟨sg_inj (x1.symm.trans y1), by omega⟩
    · obtain ⟨x1, x2, _⟩ := yesB ns (h.trans e)
      obtain ⟨y1, y2, _⟩ := yesB ns e
      exact ⟨sg_inj (x1.symm.trans y1), TL.numL_inj (x2.symm.trans y2)⟩
  exact Rat.ext e.1 e.2
theorem numL_lt' {n k : Nat} (h : (TL.numL n).length ≤ k) : n < 10 ^ k := by
  have := val_lt (dig_all (TL.numL_digits n))
  rw [TL.numL_val] at this
  exact Nat.lt_of_lt_of_le this (Nat.pow_le_pow_right (by decide) h)
theorem short_of {q : Rat} {t : Str} (e : ratS q = t) (h : t.length ≤ 60) : ShortQ q := by
  rw [len_tl] at h
  have e2 : tl t = sgL q.num ++ TL.numL q.num.natAbs ++ denL q := by rw [← e]; exact tl_ratS q
  rw [e2, List.length_append, List.length_append] at h
  refine ⟨numL_lt' (by omega), ?_⟩
  unfold denL at h
  by_cases d : (q.den : Int) = 1
  · have : q.den = 1 := by omega
    rw [this]; decide
  · rw [if_neg d, List.length_cons] at h
    exact numL_lt' (by omega)
/-- what a ratio's text looks like: part ahead of the bar, part from the bar on -/
def okP (p r : List Nat) : Bool :=
  canonB (stripL p) && (!(p.head? == some 45) || NumText.digitsVal (stripL p) != 0) && (match r with
    | [] => true
    | _ :: b => canonB b && decide (2 ≤ NumText.digitsVal b) && decide (Nat.gcd (NumText.digitsVal (stripL p)) (NumText.digitsVal b) = 1))
def okR (l : List Nat) : Bool := okP (l.takeWhile (· != 47)) (l.dropWhile (· != 47))
theorem tw1 : ∀ {p r : List Nat}, 47 ∉ p → (p ++ r).takeWhile (· != 47) = p ++ r.takeWhile (· != 47) ∧ (p ++ r).dropWhile (· != 47) = r.dropWhile (· != 47)
  | [], r, _ => ⟨rfl, rfl⟩
  | a :: p, r, h => by
    have ha : (a != 47) = true := by
      have : a ≠ 47 := fun z => h (by rw [z]; exact List.mem_cons_self ..)
      simp [this]
    obtain ⟨x, y⟩ := tw1 (r := r) (fun m => h (List.mem_cons_of_mem _ m))
    rw [List.cons_append, List.takeWhile_cons, List.dropWhile_cons, if_pos ha, if_pos ha, x, y]
    exact ⟨rfl, rfl⟩
theorem rat_okR {q : Rat} {t : Str} (e : ratS q = t) : okR (tl t) = true := by
  have e2 : tl t = sgL q.num ++ TL.numL q.num.natAbs ++ denL q := by rw [← e]; exact tl_ratS q
  obtain ⟨s1, s2⟩ := strip_sg q.num
  have sg : (!((sgL q.num ++ TL.numL q.num.natAbs).head? == some 45) || NumText.digitsVal (TL.numL q.num.natAbs) != 0) = true := by
    rw [TL.numL_val]
    by_cases n : q.num < 0
    · have : q.num.natAbs ≠ 0 := by omega
      simp [this]
    · have : ¬ (sgL q.num ++ TL.numL q.num.natAbs).head? = some 45 := fun z => n (s2.mp z)
      rw [beq_eq_false_iff_ne.mpr this]; rfl
  unfold okR
  rw [e2]
  obtain ⟨x, y⟩ := tw1 (p := sgL q.num ++ TL.numL q.num.natAbs) (r := denL q) sgn_free
  rw [x, y]
  unfold denL
  by_cases d : (q.den : Int) = 1
  · rw [if_pos d, show ([] : List Nat).takeWhile (· != 47) = [] from rfl, show ([] : List Nat).dropWhile (· != 47) = [] from rfl, List.append_nil]
    unfold okP
    rw [s1, num_canon, sg]; rfl
  · rw [if_neg d]
    have e3 : ((47 :: TL.numL q.den).takeWhile (· != 47)) = [] := rfl
    have e4 : ((47 :: TL.numL q.den).dropWhile (· != 47)) = 47 :: TL.numL q.den := rfl
    rw [e3, e4, List.append_nil]
    unfold okP
    rw [s1, num_canon, sg]
    show (true && (canonB (TL.numL q.den) && decide (2 ≤ NumText.digitsVal (TL.numL q.den)) && decide (Nat.gcd (NumText.digitsVal (TL.numL q.num.natAbs)) (NumText.digitsVal (TL.numL q.den)) = 1))) = true
    rw [num_canon, TL.numL_val, TL.numL_val, decide_eq_true (show Nat.gcd q.num.natAbs q.den = 1 from q.reduced), decide_eq_true (show 2 ≤ q.den by have := q.den_pos; omega)]
    rfl
theorem no_rat {t : Str} (h : okR (tl t) = false) : ∀ q, ratS q = t → False := fun q e => by rw [rat_okR e] at h; cases h
end DL

set_option Elab.async false
set_option linter.all false
set_option maxRecDepth 100000
set_option autoImplicit false
set_option maxHeartbeats 2000000
/-! defs with *values -/
namespace DL
open PySem PySem.Spec PyProof.Rows L2
theorem cxUpN {P : Program} {w : World} : StX.CXUp (L2N.CX P w) := by
  rintro outer s H s2 H2 E e s' un kp ho ⟨a, B, H', cls, d, ea, fl, hok, ub, na, os, ag, he⟩
  refine ⟨a, B, H', cls, d, ea, fl, hok, ⟨fun b o q n hb => ub.keep b o (kp b o q) (un.free b o q n (by simp)) hb, fun b o q hb => ub.slot b o (kp b o q) hb, fun b o q n => ub.free b o (kp b o q) (un.free b o q n (by simp)),
    fun b o q hb => ub.there b o (kp b o q) hb, fun b xs q => ub.tups b xs (un.tups b xs q), fun b o xs q => ub.frzs b o xs (un.frzs b o xs q), fun b ps q => ?_⟩, na, os.trans ho, ag, he⟩
  obtain ⟨m1, e1⟩ := un.tbls b ps q
  obtain ⟨m2, e2⟩ := ub.tbls b _ e1
  exact ⟨m1 ++ m2, by rw [e2, Array.append_assoc]⟩
theorem vs_split {K : PySem.W.Frag} {G : Hp} {so : So} {H : Hp} : ∀ {as bs : List DV} {vs : List V}, VsOk K G so H vs (as ++ bs) → ∃ v1 v2, vs = v1 ++ v2 ∧ VsOk K G so H v1 as ∧ VsOk K G so H v2 bs
  | [], _, vs, h => ⟨[], vs, rfl, .nil, h⟩
  | _ :: as, bs, _, .cons h n t => by
    obtain ⟨v1, v2, e, r1, r2⟩ := vs_split t
    exact ⟨_ :: v1, v2, by rw [e]; rfl, .cons h n r1, r2⟩
theorem vs_dall {K : PySem.W.Frag} {G : Hp} {so : So} {H : Hp} : ∀ {ds : List D} {vs : List V}, VsOk K G so H vs (ds.map DV.d) → DAll K G vs ds
  | [], _, .nil => .nil
  | _ :: ds, _, .cons h _ t => .cons h (vs_dall t)
/-- a def that takes what is left over as a tuple -/
structure FnV (P : Program) (w : World) (K : PySem.W.Frag) (mg : Str → Option Value) (base : Heap) (k : Nat) (f : Addr) (sp : SpD) : Prop where
  run : ∀ (A : Around) (outer : List Env) (s : Shared) (H : Hp) (us : List Value) (vs : List V) (Q : VK) (E : XK), Room k A → A.guards = some [] → Env0 P w K mg base A outer s H → Vals vs us → upSp K sp vs H Q E →
    codeAny (model P w) A (.call (.ref f) ⟨us, []⟩) (CR (L2N.CX P w) outer P w H s Q E) s
theorem FnV.mono {P : Program} {w : World} {K : PySem.W.Frag} {mg : Str → Option Value} {base : Heap} {j k : Nat} {f : Addr} {sp : SpD} (F : FnV P w K mg base j f sp) (h : j ≤ k) : FnV P w K mg base k f sp :=
  ⟨fun A outer s H us vs Q E hr => F.run A outer s H us vs Q E (hr.mono h)⟩
/-- the promise of such a def by that of its body: n named values, then the tuple -/
def spV (n : Nat) (sp : SpD) : SpD := fun args Q E => ∃ (as : List DV) (ds : List D), args = as ++ ds.map DV.d ∧ as.length = n ∧ ds.length ≤ szl ∧ sp (as ++ [.d (.tup ds)]) Q E
theorem fnV_of {P : Program} {w : World} {K : PySem.W.Frag} {mg : Str → Option Value} {base : Heap} {x qual pv : Str} {params : Arguments} {body : List Stmt} {scope : Scope} {kws : List (Str × V)} {f : Addr} {fd : FuncData} {N ps : List Str} {k : Nat} {sp : SpD} {t : TDS}
    (F : FunD K x qual params body scope [] kws f fd) (S : FnScope N (ps ++ [pv]) scope) (hb : ∀ (kV doc pm : Value) (an : Option Addr) (cdv ct : Value) (us rest : List Value), us.length = ps.length → bindArgs (PySem.W.fnOf x qual params body scope .none kV doc pm an cdv ct) ⟨us ++ rest, []⟩ = (newTuple rest >>= fun t => pure (ps.zip us ++ [(pv, t)])))
    (nsee : ∀ args Q E, sp args Q E → ∀ (i : Nat) (o : OO), args[i]? ≠ some (.see o))
    (hd : ∀ (cdv : Value) (A : Around) (outer : List Env) (s : Shared) (H : Hp) (E : XK), Room k (A.deeper (envOfC qual scope s.heap.objs.size f cdv)) → (cxOf (L2N.CX P w) P w K mg base N qual scope f cdv A outer s H E).A.guards = some [] →
      DSs (cxOf (L2N.CX P w) P w K mg base N qual scope f cdv A outer s H E) (fun cls d _ H' => E cls d H') body t)
    (hr : ∀ args Q E, sp args Q E → t { nx := fun _ => Q (.d .non), rt := retQ Q, bk := fun _ => False, ct := fun _ => False, xc := fun cls fs _ => E cls fs } (startD N args)) : FnV P w K mg base (k + 1) f (spV ps.length sp) := by
  obtain ⟨oc, od, dV, kV, doc, pm, an, cdv, ct, osl, rfl, lk, hcd, hD, _⟩ := F.ex
  obtain rfl : dV = .none := by
    rcases hD with ⟨_, e⟩ | ⟨e, _⟩
    · exact e
    · exact absurd rfl e
  replace hb := hb kV doc pm an cdv ct
  refine ⟨fun A outer s H us vs Q E hroom hg e0 r hsp => ?_⟩
  obtain ⟨G, so, args, QD, ED, hrep, wv, ⟨as, ds, rfl, al, dl, q⟩, hq, hx⟩ := hsp
  obtain ⟨ws, rest, rfl, w1, w2⟩ := vs_split wv
  obtain ⟨u1, u2, rfl, r1, r2⟩ := StX.vals_split r
  have da := vs_dall w2
  have hl : ws.length = ps.length := w1.length.trans al
  have hl1 : u1.length = ps.length := by rw [← r1.length]; exact hl
  have hl2 : u2.length ≤ sizeLine := by rw [← r2.length, da.length, ← szl_eq]; exact dl
  have hz : rest.length ≤ sizeLine := by rw [da.length, ← szl_eq]; exact dl
  have hn : H s.heap.objs.size = Option.none := e0.hok.fresh (Nat.le_refl _)
  refine StX.run_bnd lk hcd S hroom e0 (G := fun xs H2 => ∃ p, H p = Option.none ∧ xs = ws ++ [V.ref p] ∧ H2 = upd H p (.tup rest)) (fun A' Ex Q' h => ?_) fun s2 H2 xs ⟨p, hp, ex, eH⟩ hr' => ?_
  · rw [hb u1 u2 hl1]
    refine wpAny_bind (wpAny_newTuple (wpAny_pure ?_) hl2)
    have new : ObjOk P w (upd H s.heap.objs.size (.tup rest)) (s.heap.push ({ cls := .type "tuple", data := .seq u2.toArray } : Obj)) s.heap.objs.size (.tup rest) := ⟨hz, u2, r2, ⟨_, Heap.get?_push_size _ rfl, rfl, _, rfl⟩⟩
    have un := StX.un_laid (fs := frs outer) (s := s) (o := ({ cls := .type "tuple", data := .seq u2.toArray } : Obj)) (u := .tup rest) hn
    have z := h _ _ (ws ++ [V.ref s.heap.objs.size]) (u1 ++ [Value.ref s.heap.objs.size]) (StX.env0_laid e0 new) un rfl (fun e s' => cxUpN outer s H _ _ E e s' un (fun b o q => Heap.get?_push_of_some _ q) rfl) (r1.append (.cons rfl .nil))
      (by rw [List.length_append, List.length_append, hl] <;> rfl) ⟨_, hn, rfl, rfl⟩
    rw [List.zip_append hl1.symm] at z
    exact z
  · subst ex eH
    have pt : PostV K G so H (.ref p) (upd H p (.tup rest)) (upd G p (.tup rest)) (.d (.tup ds)) := .tuple hrep hp da
    have wn : VsOk K (upd G p (.tup rest)) so (upd H p (.tup rest)) (ws ++ [.ref p]) (as ++ [.d (.tup ds)]) := (w1.keep pt.ex pt.keep).append (.cons pt.val (fun _ e => (nomatch e)) .nil)
    have rep : Rep K (upd G p (.tup rest)) so (L2.start N (ws ++ [.ref p])) (upd H p (.tup rest)) (startD N (as ++ [.d (.tup ds)])) := rep_start pt.hrep wn (nsee _ _ _ q)
    have no : ∀ a, ¬ Own (startD N (as ++ [.d (.tup ds)])) (L2.start N (ws ++ [.ref p])) a := fun a ⟨i, o, e, _⟩ => by
      obtain ⟨_, _, _, n⟩ := wn.get (start_get e)
      exact n o rfl
    refine ⟨_, hd cdv A outer s2 _ E hr' hg, upd G p (.tup rest), so, startD N (as ++ [DV.d (D.tup ds)]), _, rep, hr (as ++ [DV.d (D.tup ds)]) QD ED q,
      ⟨fun σ' H' G' sl' p z => hq .non H' G' (.d .non) (pt.trans ⟨p.ex, p.rep.h, fun a o e sa => p.keep a o e sa (no a), fun a n g sa => p.frm a n g sa (no a), .non, fun _ _ e => (nomatch e), fun _ e => (nomatch e)⟩) z,
       fun _ _ _ _ _ z => z.elim, fun _ _ _ _ _ z => z.elim,
       fun v H' G' dv p z => hq v H' G' dv (pt.trans ⟨p.ex, p.hrep, fun a o e sa => p.keep a o e sa (no a), fun a n g sa => p.frm a n g sa (no a), p.val, fun a o e e2 => (p.new a o e e2).elim (fun k => k) fun k => absurd k (no a), (retQ_of z).1⟩) (retQ_of z).2,
       fun cls d σ' H' G' fs sl' p z1 z2 => hx cls d H' G' fs (?_ : PostH K G so H H' G') z1 z2⟩⟩
    have pn : PostV K G so H .non H' G' (.d .non) := pt.trans ⟨p.ex, p.rep.h, fun a o e sa => p.keep a o e sa (no a), fun a n g sa => p.frm a n g sa (no a), .non, fun _ _ e => (nomatch e), fun _ e => (nomatch e)⟩
    exact ⟨pn.ex, pn.hrep, pn.keep, pn.frm⟩
/-! ### calls of them -/
def dCallV (sp : SpD) (ta : TDA) : TD := fun sl Q E => ta sl (fun xs s1 => sp xs (fun v => Q v s1) fun cls fs => E cls fs s1) E
section
variable {X : Cx} {W : WX} {k : Nat} {f C : Addr} {sp : SpD} {x m : Str} {p pos apos : Pos} {e o : Expr} {es : List Expr} {ta : TDA} {to : TD} {pl : Sem Bool}
theorem run_fnV {pins : List (Addr × Obj)} {σ : L2.St} {H G : Hp} {so : So} {sl : DSt} {s : Shared} {Q : VK} {us : List Value} {vs : List V} {ds : List DV} {Q' : DV → DSt → Prop} {E : XP} (F : FnV X.prog X.w X.K X.mg X.base k f sp) (hr : Room k X.A) (hg : X.A.guards = some []) (tk : L2N.Takes X W)
    (I : Inv X pins σ H s) (rep : Rep X.K G so σ H sl) (r : Vals vs us) (w : VsOk X.K G so H vs ds)
    (q : sp ds (fun v => Q' v sl) fun cls fs => E cls fs sl) (hq : ∀ v H' G' dv sl', PostE X.K G so σ H sl v H' G' dv sl' → Q' dv sl' → Q v H') (hx : XOk X.K W G so σ H sl E) :
    wpAny (model X.prog X.w) X.A (call (.ref f) us []) (EP X pins σ Q) X.xe s := by
  refine wpAny_call (codeAny_mono (F.run X.A X.stack s H us vs Q (fun cls d H' => W cls d σ H') hr hg I.env0 r ⟨G, so, _, _, _, rep.h, w, q, fun v H' G' dv pv z => hq v H' G' dv sl (pv.slots rep) z, fun cls d H' G' fs ph z1 z2 => ?_⟩) fun r s' hz => ?_)
  · have pn : PostV X.K G so H .non H' G' (.d .non) := ⟨ph.ex, ph.hrep, ph.keep, ph.frm, .non, fun _ _ e => (nomatch e), fun _ e => (nomatch e)⟩
    exact hx cls d H' G' fs sl (pn.slots rep).toPost z1 z2
  · cases r with
    | error e => exact tk e s' (L2N.XE.of_call I (fun _ _ _ z => z) hz)
    | ok fl =>
      cases fl with
      | ret u => exact I.after hz
      | next => exact False.elim hz
      | brk => exact False.elim hz
      | cont => exact False.elim hz
theorem de_callV (F : FnV X.prog X.w X.K X.mg X.base k f sp) (hr : Room k X.A) (hgd : X.A.guards = some []) (tk : L2N.Takes X W) (hg : Gl X x) (hm : X.mg x = some (.ref f)) (hk : PySem.W.keepIn X.K (.ref f) = true)
    (ha : DA X W (e :: es) ta) (hdb : (x == ("__debug__" : Str)) = false := by decide) (he : starEach (e :: es) X.env = (false, eval e X.env) :: starEach es X.env := by rfl) (hpl : (backTo pos (starEach es X.env)).any (·.1) = false := by rfl) :
    DE X W (.Call (.Name x p) (e :: es) [] pos) (dCallV sp ta) := by
  refine ⟨fun pins s σ H Q I ⟨G, so, sl, Q', E, rep, q, hq, hx⟩ => wpAny_Call_Name_kw (ld_glob I hg hm ?_ hdb)⟩
  refine PySem.W.callWith_K (h₀ := X.base) I.ok.mod.kin hk (thn (ha.run pos pins s σ H (fun vs H1 => ∃ G1 ds s1, Post X.K G so σ H sl H1 G1 s1 ∧ VsOk X.K G1 so H1 vs ds ∧ sp ds (fun v => Q' v s1) fun cls fs => E cls fs s1) I
    ⟨G, so, sl, _, E, rep, q, fun vs H1 G1 ds s1 p1 w z => ⟨G1, ds, s1, p1, w, z⟩, hx⟩) fun us s1 ⟨vs, H1, I1, r, G1, ds, sl1, p1, w, z⟩ => ⟨I1.kIn, ?_⟩) he hpl
  exact run_fnV F hr hgd tk I1 p1.rep r w z (fun v H' G' dv sl' pe z' => hq v H' G' dv sl' (p1.thenE pe) z') (hx.step p1)
theorem de_callV0 (F : FnV X.prog X.w X.K X.mg X.base k f sp) (hr : Room k X.A) (hgd : X.A.guards = some []) (tk : L2N.Takes X W) (hg : Gl X x) (hm : X.mg x = some (.ref f)) (hk : PySem.W.keepIn X.K (.ref f) = true)
    (hdb : (x == ("__debug__" : Str)) = false := by decide) : DE X W (.Call (.Name x p) [] [] pos) (dCallV sp dNil) := by
  refine ⟨fun pins s σ H Q I ⟨G, so, sl, Q', E, rep, q, hq, hx⟩ => wpAny_Call_Name_kw (ld_glob I hg hm ?_ hdb)⟩
  exact PySem.W.callWith_K0 I.kIn hk (run_fnV (us := []) (vs := []) (ds := []) F hr hgd tk I rep .nil .nil q hq hx)
end
section
variable {n : Nat} {sp : SpD} {ta : TDA}
theorem spV_of {args as : List DV} {ds : List D} {Q : DV → Prop} {E : XE'} (e : args = as ++ ds.map DV.d) (h : as.length = n) (hl : Nat.ble ds.length szl = true) (q : sp (as ++ [.d (.tup ds)]) Q E) : spV n sp args Q E := ⟨as, ds, e, h, Nat.le_of_ble_eq_true hl, q⟩
end
end DL

set_option Elab.async false
set_option linter.all false
set_option maxRecDepth 100000
set_option autoImplicit false
set_option maxHeartbeats 2000000
/-! sorted, of data of any kind -/
namespace DL
open PySem PySem.Spec PyProof.Rows L2 PySem.W
theorem dataLe_trans {β : Type} (k : β → PyData) (a b c : β) (h1 : dataLe false k a b = true) (h2 : dataLe false k b c = true) : dataLe false k a c = true := by
  rw [dataLe_eq] at *
  simp only [cond_false, Bool.not_eq_true'] at *
  cases e : dataLt (k c) (k a) with
  | false => rfl
  | true =>
    rcases lex_negTrans _ (keyToks (k b)) _ e with z | z
    · rw [show dataLt (k c) (k b) = true from z] at h2; cases h2
    · rw [show dataLt (k b) (k a) = true from z] at h1; cases h1
theorem dataLe_total {β : Type} (k : β → PyData) (a b : β) : (dataLe false k a b || dataLe false k b a) = true := by
  rw [dataLe_eq]
  simp only [cond_false]
  cases e : dataLt (k b) (k a) with
  | false => rfl
  | true =>
    cases e2 : dataLt (k a) (k b) with
    | false => rfl
    | true =>
      have z := lex_trans _ _ _ e e2
      rw [lex_irrefl] at z; cases z
def rSortedA (K : PySem.W.Frag) : List V → Hp → VK → Prop := fun vs H Q => ∃ (a : Addr) (xs : List (V × PyData)), vs = [V.ref a] ∧ SqL K H a (xs.map (·.1)) ∧ (∀ x ∈ xs, Dp K H x.1 x.2) ∧ AllAlike (xs.map (·.2)) ∧ Sortable (xs.map (·.2)) ∧ (∀ x ∈ xs, x.2.depth ≤ 60) ∧
  ∀ p, H p = none → Q (.ref p) (upd H p (.lst ((xs.mergeSort (dataLe false (·.2))).map (·.1))))
theorem each_vals : ∀ {xs : List (V × PyData)} {us : List Value}, Vals (xs.map (·.1)) us → EachIs (fun u (x : V × PyData) => RelV x.1 u) us xs
  | [], _, .nil => .nil
  | _ :: _, _, .cons h t => .cons h (each_vals t)
theorem vals_each : ∀ {xs : List (V × PyData)} {us : List Value}, EachIs (fun u (x : V × PyData) => RelV x.1 u) us xs → Vals (xs.map (·.1)) us
  | _, _, .nil => .nil
  | _, _, .cons h t => .cons h (vals_each t)
theorem each_in {α β : Type} {R S : α → β → Prop} : ∀ {as : List α} {bs : List β}, EachIs R as bs → (∀ a b, b ∈ bs → R a b → S a b) → EachIs S as bs
  | _, _, .nil, _ => .nil
  | _, _, .cons h t, f => .cons (f _ _ (List.mem_cons_self ..) h) (each_in t fun a b hb => f a b (List.mem_cons_of_mem _ hb))
theorem cr_sortedA {X : Cx} (hu : X.A.units + 70 < cLine) : CallR X (.builtin "sorted") (rSortedA X.K) := by
  intro pins s σ H vs us Q I r h
  obtain ⟨a, xs, rfl, hs, hd, hal, hk, hdp, q⟩ := h
  obtain ⟨its, rv, hl, hz⟩ := I.list hs
  rw [Vals.ref1 r]
  have e := each_vals rv
  refine sorted_data (enc := fun x : V × PyData => x.2) hl.isList e (each_in e fun u x hx hr => Dp.reads I _ _ _ (hd x hx) hr) hal hk (by have := rv.length; rw [List.length_map] at this hz; exact hz) (fun b hb => by have := hdp b hb; omega) fun out hlen eo => ?_
  obtain ⟨ep, he'⟩ := PyProof.Rows.sortedAll_at s.heap its out.toArray
  have rv2 := vals_each eo
  have hlen2 : ((xs.mergeSort (dataLe false fun x : V × PyData => x.2)).map (·.1)).length ≤ sizeLine := by
    rw [List.length_map, List.length_mergeSort]
    rw [List.length_map] at hz
    exact hz
  exact ⟨.ref _, upd H (s.heap.objs.size + 1) (.lst ((xs.mergeSort (dataLe false fun x : V × PyData => x.2)).map (·.1))), I.laid (t' := s.toks) (fun _ _ => PyProof.Rows.sortedAll_old) (Nat.le_succ _) ⟨hlen2, out, ep, rv2, he'⟩, rfl, q _ (I.hok.fresh (Nat.le_succ _))⟩
/-- sorted(items), the items data of one form -/
@[irreducible] def sortAR : List DV → (DV → Prop) → Prop
  | [v], Q => (match v.items with
    | some ds => (match D.pyAll ds with
      | some ps => AllAlike ps ∧ Sortable ps ∧ (∀ p ∈ ps, p.depth ≤ 60) ∧ ∀ zs : List (D × PyData), zs.Perm (ds.zip ps) → zs.Pairwise (fun x y => dataLt y.2 x.2 = false) → Q (.own (.lst (zs.map (·.1))))
      | none => False)
    | none => False)
  | _, _ => False
theorem py_len : ∀ {ds : List D} {ps : List PyData}, D.pyAll ds = some ps → ds.length = ps.length
  | [], ps, h => by rw [D.pyAll] at h; cases h; rfl
  | d :: ds, ps, h => by
    rw [D.pyAll] at h
    cases e1 : d.py with
    | none => rw [e1] at h; cases h
    | some p =>
      cases e2 : D.pyAll ds with
      | none => rw [e1, e2] at h; cases h
      | some qs => rw [e1, e2] at h; cases h; rw [List.length_cons, List.length_cons, py_len e2]
theorem dp_zip {K : PySem.W.Frag} {H : Hp} : ∀ {vs : List V} {ps : List PyData}, DpAll K H vs ps → ∀ x ∈ vs.zip ps, Dp K H x.1 x.2
  | _, _, .nil, x, hx => by cases hx
  | _, _, .cons h t, x, hx => by
    rw [List.zip_cons_cons] at hx
    rcases List.mem_cons.mp hx with rfl | hx
    · exact h
    · exact dp_zip t x hx
theorem dok_zip {K : PySem.W.Frag} {G : Hp} : ∀ {vs : List V} {ds : List D} {ps : List PyData}, DAll K G vs ds → ∀ t ∈ vs.zip (ds.zip ps), DOk K G t.1 t.2.1
  | _, _, _, .nil, x, hx => by cases hx
  | _, _, [], .cons h t, x, hx => by rw [List.zip_nil_right, List.zip_nil_right] at hx; cases hx
  | _, _, _ :: _, .cons h t, x, hx => by
    rw [List.zip_cons_cons, List.zip_cons_cons] at hx
    rcases List.mem_cons.mp hx with rfl | hx
    · exact h
    · exact dok_zip t x hx
theorem dall_ts {K : PySem.W.Frag} {G : Hp} : ∀ {ts : List (V × D × PyData)}, (∀ t ∈ ts, DOk K G t.1 t.2.1) → DAll K G (ts.map (·.1)) (ts.map ((·.1) ∘ (·.2)))
  | [], _ => .nil
  | t :: ts, h => .cons (h t (List.mem_cons_self ..)) (dall_ts fun x hx => h x (List.mem_cons_of_mem _ hx))
theorem sem_sortA {K : PySem.W.Frag} : CallSem K (rSortedA K) sortAR := by
  intro G so H xs dxs Q R h w q k
  unfold sortAR at q
  split at q
  · obtain ⟨v, rfl, w1, _⟩ := w.v1
    split at q
    · rename_i ds e
      obtain ⟨c, vs, rfl, g1, a1⟩ := VOk.list h w1 e
      split at q
      · rename_i ps ep
        obtain ⟨hal, hk, hdp, q⟩ := q
        have l1 : vs.length = ds.length := a1.length
        have l2 : ds.length = ps.length := py_len ep
        have dp := DAll.dp h.ex ds vs ps a1 ep
        have m1 : (vs.zip ps).map (·.1) = vs := List.map_fst_zip (by omega)
        have m2 : (vs.zip ps).map (·.2) = ps := List.map_snd_zip (by omega)
        have t1 : (vs.zip (ds.zip ps)).map (fun t => (t.1, t.2.2)) = vs.zip ps := by
          have e1 : (ds.zip ps).map (·.2) = ps := List.map_snd_zip (by omega)
          conv => rhs; rw [← e1]
          rw [List.zip_map_right]
          rfl
        have t2 : (vs.zip (ds.zip ps)).map (·.2) = ds.zip ps := List.map_snd_zip (by rw [List.length_zip]; omega)
        obtain ⟨ts, ets⟩ : ∃ ts, ts = (vs.zip (ds.zip ps)).mergeSort (dataLe false fun t => t.2.2) := ⟨_, rfl⟩
        have em : (vs.zip ps).mergeSort (dataLe false fun x : V × PyData => x.2) = ts.map (fun t => (t.1, t.2.2)) := by
          rw [ets, ← t1, List.map_mergeSort]
          intro a _ b _; rfl
        have pm : ts.Perm (vs.zip (ds.zip ps)) := by rw [ets]; exact List.mergeSort_perm _ _
        have pw : ts.Pairwise (fun x y => dataLt y.2.2 x.2.2 = false) := by
          have := List.pairwise_mergeSort (le := dataLe false fun t : V × D × PyData => t.2.2) (fun a b c => dataLe_trans _ a b c) (fun a b => dataLe_total _ a b) (vs.zip (ds.zip ps))
          rw [← ets] at this
          refine this.imp fun {x y} hxy => ?_
          rw [dataLe_eq] at hxy
          simpa using hxy
        refine ⟨c, vs.zip ps, rfl, by rw [m1]; exact SqL.of g1, fun x hx => dp_zip dp x hx, by rw [m2]; exact hal, by rw [m2]; exact hk, fun x hx => hdp _ (List.of_mem_zip hx).2, fun p n => ?_⟩
        have ea : ((vs.zip ps).mergeSort (dataLe false fun x : V × PyData => x.2)).map (·.1) = ts.map (·.1) := by rw [em, List.map_map]; rfl
        have z := q (ts.map (·.2)) (by rw [← t2]; exact pm.map _) (List.pairwise_map.mpr pw)
        rw [List.map_map] at z
        rw [ea]
        exact k _ _ G _ (.list h n (dall_ts fun t ht => dok_zip a1 t (pm.mem_iff.mp ht))) z
      · exact q.elim
    · exact q.elim
  · exact q.elim
end DL

set_option Elab.async false
set_option linter.all false
set_option maxRecDepth 100000
set_option autoImplicit false
set_option maxHeartbeats 2000000
/-! items.index(number) -/
namespace DL
open PySem PySem.Spec PyProof.Rows L2
/-- the first place of a number among numbers -/
def FirstAt (ns : List Int) (z : Int) (j : Nat) : Prop := ns[j]? = some z ∧ ∀ m, m < j → ns[m]? ≠ some z
def dIdx (to te : TD) : TD := fun sl Q E => to sl (fun x s0 => match pubV x with
  | .d (.lst ds) => te s0 (fun y s1 => ∃ (ns : List Int) (z : Int) (j : Nat), ds = ns.map D.int ∧ y = .d (.int z) ∧ FirstAt ns z j ∧ Q (.d (.int j)) s1) E
  | _ => False) E
theorem DAll.ints_of {K : PySem.W.Frag} {G : Hp} : ∀ {vs : List V} {ns : List Int}, DAll K G vs (ns.map D.int) → vs = ns.map V.int
  | _, [], .nil => rfl
  | _, n :: ns, .cons h t => by cases h; rw [DAll.ints_of t]; rfl
theorem flat_ints (ns : List Int) : (ns.map V.int).all flatV = true := by
  rw [List.all_map]
  exact List.all_eq_true.mpr fun _ _ => rfl
theorem FirstAt.eq {ns : List Int} {z : Int} {j : Nat} (h : FirstAt ns z j) : (ns.map V.int)[j]? = some (.int z) ∧ ∀ (m : Nat) (z' : V), m < j → (ns.map V.int)[m]? = some z' → L2.eqV z' (.int z) = false := by
  refine ⟨by rw [List.getElem?_map, h.1]; rfl, fun m z' hm e => ?_⟩
  rw [List.getElem?_map] at e
  cases q : ns[m]? with
  | none => rw [q] at e; cases e
  | some w =>
    rw [q] at e; cases e
    have : w ≠ z := fun x => h.2 m hm (by rw [q, x])
    show (w == z) = false
    exact beq_eq_false_iff_ne.mpr this
section
variable {X : Cx} {W : WX} {o e : Expr} {to te : TD} {apos pos : Pos}
theorem de_idxL (ho : DE X W o to) (he : DE X W e te) (hs : starEach [e] X.env = (false, eval e X.env) :: starEach [] X.env := by rfl) (hbase : attributeBase o "index" X.env (eval o X.env) = eval o X.env := by rfl)
    (hfew : ((backTo pos (starEach [e] X.env)).all (fun x => !x.1) && (backToKw pos (keywordEach [] X.env)).all (fun x => x.1.isSome)
      && decide ([e].length + ([] : List Keyword).length + (if ([] : List Keyword).isEmpty then 0 else 1) < 30)) = true := by rfl)
    (hline : (apos.endLine == pos.line) = true := by rfl) (hplain : (backTo pos (starEach [] X.env)).any (·.1) = false := by rfl) : DE X W (.Call (.Attribute o "index" apos) [e] [] pos) (dIdx to te) := by
  refine pe_imp (pe_bm PySem.F.plainAttrs_list PySem.F.slot_list_index PySem.F.type_list_index mt_index ho (pa_cons he pa_nil hs) hbase hfew hline hs hplain) fun σ H R ⟨G, so, sl, Q, E, rep, q, hq, hx⟩ => ?_
  refine ⟨G, so, sl, _, E, rep, q, fun x H1 G1 dx s1 p1 h1 => ?_, hx⟩
  obtain ⟨G1', p1'⟩ := p1.pub
  split at h1
  · rename_i ds ed
    rw [ed] at p1'
    obtain ⟨a, vs, rfl, ha, da⟩ := VOk.list p1'.rep.h p1'.val (rfl : DV.items (.d (.lst ds)) = some ds)
    refine ⟨.inl ⟨rfl, vs, SqL.of ha⟩, G1', so, s1, _, E, p1'.rep, h1, fun y H2 G2 dy s2 p2 h2 => ?_, hx.step p1'.toPost⟩
    obtain ⟨ns, z, j, rfl, rfl, fa, h2⟩ := h2
    have wl : VOk X.K G2 so H2 (.ref a) (.d (.lst (ns.map D.int))) := p1'.over p2.toPost
    obtain ⟨a', vs', ea, ha', da'⟩ := VOk.list p2.rep.h wl (rfl : DV.items (.d (.lst (ns.map D.int))) = some _)
    cases ea
    have wy := p2.val
    cases wy
    obtain ⟨f1, f2⟩ := fa.eq
    exact ⟨a, ns.map V.int, .int z, j, .int z, rfl, rfl, by rw [← da'.ints_of]; exact SqL.of ha', rfl, flat_ints ns, f1, by show (z == z) = true; exact beq_self_eq_true z, f2,
      hq _ H2 G2 _ s2 ((p1'.toPost.trans p2.toPost).thenV (.dat p2.rep.h (.int _))) h2⟩
  · exact h1.elim
end
end DL

set_option Elab.async false
set_option linter.all false
set_option maxRecDepth 100000
set_option autoImplicit false
set_option maxHeartbeats 2000000
/-! exceptions out of comprehensions -/
namespace DL
open PySem PySem.Spec PyProof.Rows L2
theorem note_comp (e : Value) (scope : Scope) (cl : List (Str × Addr)) (C : Addr) (env : Env) : noteFrame e (compEnvC scope cl C env) = noteFrame e env := rfl
theorem notedBy_comp (M : Model) (A : Around) (scope : Scope) (cl : List (Str × Addr)) (C : Addr) (env : Env) (E : Value → Shared → Prop) : notedBy M A (compEnvC scope cl C env) E = notedBy M A env E := rfl
/-- held at another record: noted here -/
theorem looks_heldZ {M : Model} {A : Around} {E : Value → Shared → Prop} {s : Shared} {base : Heap} {env : Env} {outer : List Env} {L C e : Addr} {Z : Obj → Prop} {Q : Unit → Shared → Prop} (hZ : PXN.Steady1 Z) (hfr : A.frames = some (env :: outer)) (hf : env.frame = some L) (hne : C ≠ L)
    (hfl : HandSPX.HeldZ base (env :: outer) e Z C s.heap)
    (hQ : ∀ h', HandSPX.HeldZ base (env :: outer) e Z L h' → s.heap.UpToSlots h' → Q () { s with heap := h' }) : wpAny M A (noteFrame (.ref e) env) Q E s := by
  obtain ⟨hkb, hen, hl, oe, vs, T, oT, ts, he, hz, hd, h1, hnT, hTe, hT, hdT, h3⟩ := hfl
  unfold noteFrame
  simp only [hf]
  refine wpAny_bind (wpAny_field he hd h1 ?_)
  rw [if_pos (show (Value.ref T != Value.none) = true from by simp)]
  refine wpAny_bind (wpAny_field hT hdT h3 ?_)
  have hr : ¬ ((rawInt C == rawInt L) = true) := by
    intro q
    have q2 : rawInt C = rawInt L := by simpa using q
    exact hne (Int.ofNat_inj.mp (by simpa [rawInt] using q2))
  rw [if_neg hr]
  refine wpAny_bind (wpAny_setField hT hdT (Array.getElem?_eq_some_iff.mp h3).1 ?_)
  have other : ∀ b, b ≠ T → (s.heap.update T (Obj.mapFields (·.setIfInBounds 3 Value.none))).get? b = s.heap.get? b := fun b hb => Heap.get?_update_other _ _ (Ne.symm hb)
  have noRecord : ∀ b o, s.heap.get? b = some o → (∀ vs, o.data ≠ .fields vs) → b ≠ T := fun b o hb hnf q => by
    rw [q, hT] at hb; injection hb with hb; subst hb; exact hnf ts hdT
  refine PXN.wpAny_entryZ hZ hfr (hl.of_keeps fun b o hb hnf => ⟨o, (other b (noRecord b o hb hnf)).trans hb, rfl⟩) hf ((other e (Ne.symm hTe)).trans he)
    (fun b o hbo => (other b fun q => by rw [q, hnT] at hbo; cases hbo).trans (hkb b o hbo)) hen hd (Array.getElem?_eq_some_iff.mp h1).1 hz fun h' hN => ?_
  obtain ⟨x1, x2, x3, x4⟩ := hN
  exact hQ h' ⟨x1, hen, x2, x3⟩ fun b o hb hnf => x4 b o ((other b (noRecord b o hb hnf)).trans hb) hnf
/-- in any case it is held at the def's own record then -/
theorem Sky.note {M : Model} {A : Around} {E : Value → Shared → Prop} {s : Shared} {base : Heap} {env : Env} {outer : List Env} {L C e : Addr} {Z : Obj → Prop} {Q : Unit → Shared → Prop} (hZ : PXN.Steady1 Z) (hfr : A.frames = some (env :: outer)) (hf : env.frame = some L) (hne : C ≠ L)
    (x : Sky base (env :: outer) e Z C s.heap) (hQ : ∀ h', HandSPX.HeldZ base (env :: outer) e Z L h' → s.heap.UpToSlots h' → Q () { s with heap := h' }) : wpAny M A (noteFrame (.ref e) env) Q E s := by
  rcases x with ⟨hB, hn, hl, oe, vs, he, hz, hd, h1⟩ | fl | hh
  · exact PXN.look_newZ hZ hfr hl hf he hB hn hd h1 hz hQ
  · exact PXN.looks_onZ hZ hfr hf fl hQ
  · exact looks_heldZ hZ hfr hf hne hh hQ
/-! ### a comprehension, its block's exceptions passed on with the def's frame -/
def compEnd (M : Model) (A : Around) (E : Value → Shared → Prop) (env : Env) (Q : Value → Shared → Prop) (acc : Value) (C : Addr) (r : Result) (s' : Shared) : Prop :=
  ∃ m, s'.heap.Ns C m ∧ ∀ h', Heap.SameBut C s'.heap h' → match r with
    | .ok _ => Q acc { s' with heap := h' }
    | .error x => wpAny M A (PySem.passOn "comprehension.variables-let-go" x env : Sem Value) (fun _ _ => False) E { s' with heap := h' }
theorem comp_run {M : Model} {A : Around} {E : Value → Shared → Prop} {s : Shared} {env : Env} {e : Expr} {scope : Scope} {pos : Pos} {newAcc first : Sem Value} {g : Comprehension} {gs : List Comprehension} {cl : List (Str × Addr)} {Q : Value → Shared → Prop}
    (hcl : clausesOf e = g :: gs) (hs : ∀ x, foldedSetIterable g.iter env x = pure x) (hclos : closureFor scope env = pure cl) (hkind : scope.kind = .function) (hnames : ∀ x ∈ scope.names, x.2 = .local → scope.names.lookup x.1 = some .local)
    (h : wpAny M A first (fun x s₁ => wpAny M A (pyIter x) (fun it s₂ => wpAny M A newAcc (fun acc s₃ => wpAny M A (newFunctionEnv scope env.globals cl [] env.qual none .none (some env)) (fun cenv s₄ => cenv.frame = env.frame ∧
        codeAny M A (.compStart e 0 it acc { cenv with scope := relabel scope env }) (compEnd M A E env Q acc cenv.locals) s₄) E s₃) E s₂) E s₁) E s) :
    wpAny M A (comprehension e scope env pos newAcc false first none) Q E s := by
  unfold comprehension
  rw [hclos, hcl]
  refine wpAny_bind (wpAny_mono h (fun x s₁ a₁ => ?_) fun _ _ z => z)
  refine wpAny_bind (wpAny_standAt (wpAny_bind (wpAny_of_eq (hs x) (wpAny_bind (wpAny_holding (wpAny_mono a₁ (fun it s₂ a₂ => ?_) fun _ _ z => z))))))
  refine wpAny_standIf (wpAny_bind (wpAny_mono a₂ (fun acc s₃ a₃ => ?_) fun _ _ z => z))
  refine wpAny_bind (wpAny_pure (wpAny_bind (wpAny_mono a₃ (fun cenv s₄ ⟨hf, a₄⟩ => ?_) fun _ _ z => z)))
  dsimp only
  have vars : ∀ x ∈ (scope.names.filter fun x => (x.2 == .local || x.2 == .cell) && x.1 != (".0" : Str)).reverse, x.2 = .local → Env.kindOf { cenv with scope := relabel scope env } x.1 = some .local := fun x hx hl =>
    lookup_relabel_local (hnames x (List.mem_filter.mp (List.mem_reverse.mp hx)).1 hl)
  refine wpAny_holding (wpAny_bind (wpAny_attempt (wpAny_holding (wpAny_run (codeAny_mono a₄ fun r s' ⟨m, hn, hr⟩ => ?_)))))
  cases r with
  | ok f => exact wpAny_bind (wpAny_holding (wpAny_comp_letGo (cenv := { cenv with scope := relabel scope env }) hkind _ s' m vars hn fun h' m' _ sb => wpAny_pure (hr h' sb)))
  | error x =>
    refine wpAny_bind (wpAny_holding (wpAny_comp_letGo (cenv := { cenv with scope := relabel scope env }) hkind _ s' m vars hn fun h' m' _ sb => ?_))
    have z : ∀ e2 : Env, e2.frame = env.frame → (PySem.passOn "comprehension.variables-let-go" x e2 : Sem Value) = PySem.passOn "comprehension.variables-let-go" x env := fun e2 h2 => by
      unfold PySem.passOn
      rw [h2]
    rw [z]
    rotate_left
    · exact hf
    exact wpAny_mono (hr h' sb) (fun _ _ f => f.elim) fun _ _ y => y
/-- what is held at the def's record is passed on so -/
theorem pass_held {α : Type} {M : Model} {A : Around} {E : Value → Shared → Prop} {s : Shared} {base : Heap} {env : Env} {l : List Env} {L e : Addr} {Z : Obj → Prop} {what : String} {Q : α → Shared → Prop} (hf : env.frame = some L) (hh : HandSPX.HeldZ base l e Z L s.heap)
    (hE : ∀ h', HandSPX.HeldZ base l e Z L h' → s.heap.UpToSlots h' → E (.ref e) { s with heap := h' }) : wpAny M A (PySem.passOn what (.ref e) env : Sem α) Q E s := by
  obtain ⟨hkb, hen, hl, oe, vs, T, oT, ts, he, hz, hd, h1, hnT, hTe, hT, hdT, h3⟩ := hh
  have hsz3 : 3 < ts.size := (Array.getElem?_eq_some_iff.mp h3).1
  have other : ∀ b, b ≠ T → (s.heap.update T (Obj.mapFields (·.setIfInBounds 3 (rawInt L)))).get? b = s.heap.get? b := fun b hb => Heap.get?_update_other _ _ (Ne.symm hb)
  have noRecord : ∀ b o, s.heap.get? b = some o → (∀ vs, o.data ≠ .fields vs) → b ≠ T := fun b o hb hnf q => by
    rw [q, hT] at hb; injection hb with hb; subst hb; exact hnf ts hdT
  unfold PySem.passOn
  refine wpAny_bind (wpAny_field he hd h1 ?_)
  rw [if_neg (show ¬ (Value.ref T == Value.none) = true from by simp)]
  refine wpAny_bind ?_
  unfold setFlight
  rw [hf]
  refine wpAny_bind (wpAny_field he hd h1 ?_)
  rw [if_pos (show (Value.ref T != Value.none) = true from by simp)]
  refine wpAny_setField hT hdT hsz3 (wpAny_throw (hE _ ⟨fun b o hbo => (other b fun q => by rw [q, hnT] at hbo; cases hbo).trans (hkb b o hbo), hen,
    hl.of_keeps fun b o hb hnf => ⟨o, (other b (noRecord b o hb hnf)).trans hb, rfl⟩, ?_⟩ fun b o hb hnf => ⟨o.slots, (other b (noRecord b o hb hnf)).trans hb⟩))
  exact ⟨oe, vs, T, _, _, (other e (Ne.symm hTe)).trans he, hz, hd, h1, hnT, hTe, Heap.get?_update_self _ hT (Obj.isFreed_of_fields (Obj.data_mapFields hdT _)), Obj.data_mapFields hdT _, by simp [hsz3]⟩
end DL

set_option Elab.async false
set_option linter.all false
set_option maxRecDepth 100000
set_option autoImplicit false
set_option maxHeartbeats 2000000
/-! an exception leaves a comprehension's block -/
namespace DL
open PySem PySem.Spec PyProof.Rows L2
theorem hide1_get {h : Heap} {C b : Addr} {o : Obj} (e : h.get? b = some o) (n : b ≠ C) : (PySem.W.hideAll h [C]).get? b = some o := PySem.W.hideAll_get _ e (by simp [n])
theorem hide1_of {h : Heap} {C b : Addr} {o : Obj} (e : (PySem.W.hideAll h [C]).get? b = some o) : h.get? b = some o ∧ b ≠ C := ⟨PySem.W.of_hideAll _ e, fun z => by
  subst z
  rw [PySem.W.hideAll_none _ (List.mem_singleton.mpr rfl)] at e; cases e⟩
theorem hide_none {h : Heap} {C b : Addr} (e : h.get? b = none) : (PySem.W.hideAll h [C]).get? b = none := by
  cases q : (PySem.W.hideAll h [C]).get? b with
  | none => rfl
  | some z => rw [(hide1_of q).1] at e; cases e
theorem ff_hide {h B : Heap} {C : Addr} : ∀ {l : List Env}, h.FunFrames B l → h.FunFrames (PySem.W.hideAll B [C]) l
  | [], _ => trivial
  | env :: r, ⟨k, ⟨L, o, e1, e2, e3, e4⟩, t⟩ => ⟨k, ⟨L, o, e1, hide_none e2, e3, e4⟩, ff_hide t⟩
theorem ff_but {h h2 B : Heap} {C : Addr} (sb : Heap.SameBut C h h2) : ∀ {l : List Env}, h.FunFrames B l → C ∉ frs l → h2.FunFrames B l
  | [], _, _ => trivial
  | env :: r, ⟨k, ⟨L, o, e1, e2, e3, e4⟩, t⟩, n => ⟨k, ⟨L, o, e1, e2, (sb.2 L fun z => n (by subst z; unfold frs; rw [List.filterMap_cons, e1]; exact List.mem_cons_self ..)).trans e3, e4⟩, ff_but sb t fun m => n (by
    unfold frs at m ⊢
    rw [List.filterMap_cons, e1]
    exact List.mem_cons_of_mem _ m)⟩
theorem blk_exit {X : Cx} {W W' : WX} {pins : List (Addr × Obj)} {σ : L2.St} {H3 : Hp} {s3 s' : Shared} {u : Value} {scope : Scope} {ce : Env} {fp : List Addr} {acc : Value} {Qf : Value → Shared → Prop}
    (I3 : Inv X pins σ H3 s3) (tk : L2N.Takes X W) (hst : X.stack = X.env :: X.outer) (hfr : X.env.frame = some X.env.locals) (hce : ce.frame = X.env.frame) (cL : ce.locals = s3.heap.objs.size) (hfp : ∀ b ∈ fp, FpOk X pins H3 b)
    (hW : ∀ cls d σ' H', W' cls d σ' H' → W cls d σ H')
    (x : L2N.XE (X.blk s3 H3 scope ce fp) W' u s') :
    notedBy (model X.prog X.w) X.A X.env (fun e s'' => compEnd (model X.prog X.w) X.A X.xe X.env Qf acc s3.heap.objs.size (.error e) s'') u s' := by
  obtain ⟨a, B, sI, pn, σ', H', cls, d, rfl, I, nb, up, sky, na, os, ag, w⟩ := x
  have hne : s3.heap.objs.size ≠ X.env.locals := by
    obtain ⟨m, ⟨o, _, _, ho, _⟩, _⟩ := I3.loc
    exact (Nat.ne_of_lt (Heap.lt_size ho)).symm
  have frames : X.A.frames = some (X.env :: X.outer) := by rw [I3.ok.frames, hst]
  have sky' : Sky B (X.env :: X.outer) a (L2N.Zn cls d) s3.heap.objs.size s'.heap := by
    have z : Sky B X.stack a (L2N.Zn cls d) ce.locals s'.heap := sky
    rw [hst, cL] at z; exact z
  refine Sky.note L2N.Zn.steady frames hfr hne sky' fun h1 hh up1 => ?_
  obtain ⟨m, ⟨o, es, ep, ho, hd, r⟩, _⟩ := I.loc
  have ho : sI.heap.get? s3.heap.objs.size = some o := by rw [← cL]; exact ho
  have hC' : H' s3.heap.objs.size = none := by rw [← cL]; exact I.free
  obtain ⟨sl, e1⟩ := (up.trans up1) _ _ ho (fun vs z => by rw [hd] at z; cases z)
  refine ⟨m, ⟨_, es, ep, e1, hd, r⟩, fun h2 sb => ?_⟩
  have cs : s3.heap.objs.size ∉ frs X.stack := fun hm => by
    obtain ⟨_, o', e', _⟩ := I3.stack.mem hm
    exact absurd (Heap.lt_size e') (Nat.lt_irrefl _)
  have BC := nb _ _ ho cs
  obtain ⟨hkb, hen, hl, oe, vs, T, oT, ts, he, hz, hdv, h1v, hnT, hTe, hT, hdT, h3⟩ := hh
  have aC : a ≠ s3.heap.objs.size := fun z => by rw [z, BC] at hen; cases hen
  have TC : T ≠ s3.heap.objs.size := fun z => by rw [z, BC] at hnT; cases hnT
  have held : HandSPX.HeldZ (PySem.W.hideAll B [s3.heap.objs.size]) (X.env :: X.outer) a (L2N.Zn cls d) X.env.locals h2 := by
    refine ⟨fun b o2 q => ?_, hide_none hen, ff_hide (ff_but sb hl (by rw [← hst]; exact cs)), oe, vs, T, oT, ts, (sb.2 a aC).trans he, hz, hdv, h1v, hide_none hnT, hTe, (sb.2 T TC).trans hT, hdT, h3⟩
    · obtain ⟨q1, q2⟩ := hide1_of q
      exact (sb.2 b q2).trans (hkb b o2 q1)
  refine pass_held hfr held fun h4 hh4 up4 => tk _ _ ⟨a, PySem.W.hideAll B [s3.heap.objs.size], { sI with heap := PySem.W.hideAll sI.heap [s3.heap.objs.size] }, pins, σ, H', cls, d, rfl, ?_, fun b o2 q hb => ?_, fun b o2 q hnf => ?_, by rw [hst]; exact .inr (.inr hh4), na, os, ag, hW _ _ _ _ w⟩
  · refine I3.call' (ch := fp) I.os ⟨?_, ?_, ?_, ?_, I.base.tups, I.base.frzs, I.base.tbls⟩ (fun b o2 q => (I.hok b o2 q).stay (fun c u hc r => hide1_get r fun z => ?_) (fun _ r => r) fun _ _ r => r) I.bare fun b hb => ⟨(hfp b hb).2.2.2.1, (hfp b hb).2.1, (hfp b hb).2.2.2.2.1, (hfp b hb).2.2.2.2.2⟩
    · exact fun b o2 q n h5 h6 => hide1_get (I.base.keep b o2 q n h5 h6) (Nat.ne_of_lt (Heap.lt_size q))
    · exact fun b o2 q n h5 h6 => by
        obtain ⟨sl2, z⟩ := I.base.slot b o2 q n h5 h6
        exact ⟨sl2, hide1_get z (Nat.ne_of_lt (Heap.lt_size q))⟩
    · exact I.base.free
    · exact fun b o2 q h6 => by
        obtain ⟨o3, z⟩ := I.base.there b o2 q h6
        exact ⟨o3, hide1_get z (Nat.ne_of_lt (Heap.lt_size q))⟩
    · rcases hc with rfl | hc
      · rw [z, hC'] at q; cases q
      · rw [z, hC'] at hc; cases hc
  · obtain ⟨q1, q2⟩ := hide1_of q
    exact hide1_get (nb b o2 q1 hb) q2
  · obtain ⟨q1, q2⟩ := hide1_of q
    obtain ⟨sl2, z1⟩ := (up.trans up1) b o2 q1 hnf
    have z2 := (sb.2 b q2).trans z1
    exact up4 b _ z2 hnf |>.imp fun sl3 z3 => z3
end DL

set_option Elab.async false
set_option linter.all false
set_option maxRecDepth 100000
set_option autoImplicit false
set_option maxHeartbeats 2000000
/-! the block's context with its exceptions kept -/
namespace DL
open PySem PySem.Spec PyProof.Rows L2
abbrev withXe (X : Cx) (e : Value → Shared → Prop) : Cx := { X with xe := e }
theorem ok_xe {X : Cx} {e : Value → Shared → Prop} (h : X.Ok) : (withXe X e).Ok := by
  obtain ⟨h1, h2, h3, h4, h5, h6, h7, h8, h9, h10, h11, h12, h13, h14, h15, h16, h17, h18⟩ := h
  exact ⟨h1, h2, h3, h4, h5, h6, h7, h8, h9, h10, h11, h12, h13, h14, h15, h16, h17, h18⟩
theorem inv_xe {X : Cx} {e : Value → Shared → Prop} {pins : List (Addr × Obj)} {σ : L2.St} {H : Hp} {s : Shared} (h : Inv X pins σ H s) : Inv (withXe X e) pins σ H s := by
  obtain ⟨h1, h2, h3, h4, h5, h6, h7, h8, h9, h10, h11⟩ := h
  exact ⟨ok_xe h1, h2, h3, h4, h5, h6, h7, h8, h9, h10, h11⟩
theorem inv_unxe {X : Cx} {e : Value → Shared → Prop} {pins : List (Addr × Obj)} {σ : L2.St} {H : Hp} {s : Shared} (h : Inv (withXe X e) pins σ H s) : Inv X pins σ H s := by
  obtain ⟨h0, h2, h3, h4, h5, h6, h7, h8, h9, h10, h11⟩ := h
  obtain ⟨g1, g2, g3, g4, g5, g6, g7, g8, g9, g10, g11, g12, g13, g14, g15, g16, g17, g18⟩ := h0
  exact ⟨⟨g1, g2, g3, g4, g5, g6, g7, g8, g9, g10, g11, g12, g13, g14, g15, g16, g17, g18⟩, h2, h3, h4, h5, h6, h7, h8, h9, h10, h11⟩
theorem xe_back {X : Cx} {e : Value → Shared → Prop} {W : WX} {u : Value} {s' : Shared} (h : L2N.XE (withXe X e) W u s') : L2N.XE X W u s' := by
  obtain ⟨a, B, sI, pn, σ, H, cls, d, h1, I, h3, h4, h5, h6, h7, h8, h9⟩ := h
  exact ⟨a, B, sI, pn, σ, H, cls, d, h1, inv_unxe I, h3, h4, h5, h6, h7, h8, h9⟩
/-- the block's context, what it lets out being W's -/
abbrev blkX (X : Cx) (s : Shared) (H : Hp) (scope : Scope) (ce : Env) (fp : List Addr) (W : WX) : Cx := withXe (X.blk s H scope ce fp) (L2N.XE (X.blk s H scope ce fp) W)
theorem takes_blk {X : Cx} {s : Shared} {H : Hp} {scope : Scope} {ce : Env} {fp : List Addr} {W : WX} : L2N.Takes (blkX X s H scope ce fp W) W := fun _ _ h => xe_back h
end DL

set_option Elab.async false
set_option linter.all false
set_option maxRecDepth 100000
set_option autoImplicit false
set_option maxHeartbeats 4000000
/-! a list comprehension whose elements may raise -/
namespace DL
open PySem PySem.Spec PyProof.Rows L2
theorem pe_lcX {X : Cx} {W W' : WX} {elt tg iter : Expr} {ifs : List Expr} {scope : Scope} {own : List (Str × Nat)} {pos : Pos} {wi : TI} {g : TG} {tt : TT} {te : TE} (hc : X.calm = true) (hN : X.N.Nodup) (hi : PI X tg iter wi) (ok : BlkOk X.N X.env.scope scope own)
    (tk : L2N.Takes X W) (hst : X.stack = X.env :: X.outer) (hfr : X.env.frame = some X.env.locals) (hW : ∀ cls d σ' H', W' cls d σ' H' → ∀ σ, W cls d σ H')
    (hg : ∀ (s : Shared) (H : Hp) (C : Addr) (cl : List (Str × Addr)) (fp : List Addr), PG (blkX X s H scope (compEnvC scope cl C X.env) fp W') tg g)
    (ht : ∀ (s : Shared) (H : Hp) (C : Addr) (cl : List (Str × Addr)) (fp : List Addr), PTs (blkX X s H scope (compEnvC scope cl C X.env) fp W') ifs tt)
    (he : ∀ (s : Shared) (H : Hp) (C : Addr) (cl : List (Str × Addr)) (fp : List Addr), PE (blkX X s H scope (compEnvC scope cl C X.env) fp W') elt te) (hs : ∀ x, foldedSetIterable iter X.env x = pure x := by intro _; rfl) :
    PE X (.ListComp elt [⟨tg, iter, ifs, 0⟩] scope pos) (tLc wi g tt te (own.map (·.2))) := by
  refine ⟨fun pins s σ H Q I h => ?_⟩
  rw [eval_ListComp]
  have hfree : ∀ y ∈ scope.names, y.2 = .free → ∃ c, X.env.cells.lookup y.1 = some c := fun y hy e => by
    rcases ok.free y hy e with k | k
    · exact I.ok.has _ (.inl k)
    · exact I.ok.has _ (.inr k)
  refine comp_run rfl hs (closure_ok hfree) ok.kind (fun y hy e => by rw [ok.uniq y hy, e])
    (thn (hi.run pins s σ H _ I h) fun xv s1 hx => thn hx fun itv s2 h2 => ?_)
  obtain ⟨it, fp, tn, J, H2, e, I2, T, st2, f2, q⟩ := h2
  subst e
  refine wpAny_newObj_type (newEnv_comp ⟨rfl, ?_⟩) (by show 0 ≤ sizeLine; decide)
  generalize hD : s2.heap.objs.size = D
  have hDn : H2 D = none := I2.hok.fresh (Nat.le_of_eq hD)
  obtain ⟨Wt, ⟨m0, w0⟩, turn⟩ := q D hDn
  generalize hs3 : ({ s2 with heap := s2.heap.push { cls := .type "list", data := .seq ([] : List Value).toArray } } : Shared) = s3
  have I3 : Inv X pins σ (upd H2 D (.lst [])) s3 := by
    rw [← hs3]
    refine I2.laid (t' := s2.toks) (fun b o e => Heap.get?_push_of_some _ e) (Nat.le_of_eq hD) ⟨Nat.zero_le _, [], 0, .nil, ?_⟩
    rw [← hD]
    exact Heap.get?_push_size _ rfl
  have h3 : s3.heap = s2.heap.push { cls := .type "list", data := .seq ([] : List Value).toArray } := by rw [← hs3]
  have f3 : ∀ b ∈ fp, FpOk X pins (upd H2 D (.lst [])) b ∧ b < s3.heap.objs.size := fun b hb => by
    obtain ⟨o, e, _⟩ := T.obj _ _ st2 b hb
    have hlt : b < s2.heap.objs.size := Heap.lt_size e
    refine ⟨⟨?_, (f2 b hb).2⟩, by rw [h3, Heap.size_push]; exact Nat.lt_succ_of_lt hlt⟩
    rw [upd_ne (by rw [← hD]; exact Nat.ne_of_lt hlt)]
    exact (f2 b hb).1
  have st3 : tn 0 s3.heap := T.keep _ _ _ st2 fun b _ o e => by rw [h3]; exact Heap.get?_push_of_some _ e
  have I4 := block_start I3 ok hN f3
  obtain ⟨cl, hcl⟩ : ∃ cl, cl = cellsFrom (s3.heap.objs.size + 1) scope.names (cloFrom X.env.cells scope.names []) := ⟨_, rfl⟩
  rw [← hcl] at I4
  have pg := hg s3 (upd H2 D (.lst [])) s3.heap.objs.size cl fp
  have pt := ht s3 (upd H2 D (.lst [])) s3.heap.objs.size cl fp
  have pe := he s3 (upd H2 D (.lst [])) s3.heap.objs.size cl fp
  show codeAny _ _ (.compStart (.ListComp elt [⟨tg, iter, ifs, 0⟩] scope pos) 0 (.ref it) (.ref D) (compEnvC scope (cellsFrom (s3.heap.objs.size + 1) scope.names (cloFrom X.env.cells scope.names [])) s3.heap.objs.size X.env)) (compEnd (model X.prog X.w) X.A X.xe X.env _ (.ref D) s3.heap.objs.size) { s3 with heap := pushCells (s3.heap.push { cls := .type "dict", data := .dict #[] }) scope.names }
  rw [← hcl]
  have nfp : ∀ b ∈ fp, (upd H2 D (.lst [])) b = none := fun b hb => (f3 b hb).1.1
  have exitR : ∀ u s', L2N.XE (X.blk s3 (upd H2 D (.lst [])) scope (compEnvC scope cl s3.heap.objs.size X.env) fp) W' u s' → notedBy (model X.prog X.w) X.A (compEnvC scope cl s3.heap.objs.size X.env) (fun e s'' => compEnd (model X.prog X.w) X.A X.xe X.env (EP X pins σ Q) (.ref D) s3.heap.objs.size (.error e) s'') u s' := fun u s' x =>
    blk_exit (ce := compEnvC scope cl s3.heap.objs.size X.env) I3 tk hst hfr rfl rfl (fun b hb => (f3 b hb).1) (fun cls d σ' H' w => hW cls d σ' H' w σ) x
  have cL : (compEnvC scope cl s3.heap.objs.size X.env).locals = s3.heap.objs.size := rfl
  generalize compEnvC scope cl s3.heap.objs.size X.env = ce at I4 pg pt pe exitR cL ⊢
  generalize upd H2 D (.lst []) = H3 at I3 I4 pg pt pe w0 nfp f3 exitR
  have I4' : Inv (blkX X s3 H3 scope ce fp W') [] (wipe σ (own.map (·.2))) H3 { s3 with heap := pushCells (s3.heap.push { cls := .type "dict", data := .dict #[] }) scope.names } := inv_xe I4
  have st4 : tn 0 (pushCells (s3.heap.push { cls := .type "dict", data := .dict #[] }) scope.names) := T.keep _ _ _ st3 fun b _ o e => pushCells_keeps _ _ _ _ (Heap.get?_push_of_some _ e)
  have stat : ∀ {σ' : L2.St} {H' : Hp} {s' : Shared}, Inv (blkX X s3 H3 scope ce fp W') [] σ' H' s' → (∀ b ∈ fp, H' b = none) → ∀ b ∈ fp, FpOk (blkX X s3 H3 scope ce fp W') [] H' b := fun {σ' H' s'} I' hn b hb =>
    ⟨hn b hb, (I'.ok.exf b hb).1, I'.ok.exfs b hb, .inl hb, fun x c e => (I'.ok.exf b hb).2 x c e, fun p hp => absurd (show p ∈ ([] : List (Addr × Obj)) ++ [] from hp) (by simp)⟩
  have loop : codeAny (model X.prog X.w) X.A (.compLoop (.ListComp elt [⟨tg, iter, ifs, 0⟩] scope pos) 0 (.ref it) (.ref D) ce) (compEnd (model X.prog X.w) X.A X.xe X.env (EP X pins σ Q) (.ref D) s3.heap.objs.size) { s3 with heap := pushCells (s3.heap.push { cls := .type "dict", data := .dict #[] }) scope.names } := by
    refine compLoop_any (fun n s' => ∃ i H', Inv (blkX X s3 H3 scope ce fp W') [] (wipe σ (own.map (·.2))) H' s' ∧ tn i s'.heap ∧ (∀ b ∈ fp, H' b = none) ∧ Wt i n H') ?_ m0 ⟨0, H3, I4', st4, nfp, w0⟩
    rintro n s5 ⟨i, H5, I5, st5, n5, w5⟩
    rcases turn i n H5 w5 with ⟨stop, qq⟩ | ⟨go, Nx, hNx, step⟩
    · have td := T.done (blkX X s3 H3 scope ce fp W') rfl rfl rfl hc i [] s5 _ H5 (fun _ _ => False) I5 (stat I5 n5) st5 stop
      refine thnF td fun r s6 ⟨hr, I6⟩ => ?_
      subst hr
      have I7 : Inv X pins σ H5 s6 := I3.call' (ch := fp) I6.os I6.base I6.hok I6.bare fun b hb => ⟨(f3 b hb).1.2.2.2.1, (f3 b hb).1.2.1, (f3 b hb).1.2.2.2.2.1, (f3 b hb).1.2.2.2.2.2⟩
      have nC : H5 s3.heap.objs.size = none := by
        have z : H5 ce.locals = none := I6.free
        rw [cL] at z
        exact z
      obtain ⟨m, hn, _⟩ := I6.loc
      have hn : s6.heap.Ns ce.locals m := hn
      rw [cL] at hn
      obtain ⟨g0, g1, g2, g3, g4, g5⟩ := I3.fpOk (Nat.le_refl _) nC
      exact ⟨m, hn, fun h'' sb => ⟨.ref D, H5, I7.turned (t' := s6.toks) (fun b o hb e => (sb.2 b hb).trans e) g0 g1 g3 g4 g5, rfl, qq⟩⟩
    · have ti := T.item (blkX X s3 H3 scope ce fp W') rfl rfl rfl hc i [] s5 _ H5 (fun _ _ => False) I5 (stat I5 n5) st5 go
      refine thnF ti fun r s6 ⟨u, hr, h6⟩ => ?_
      subst hr
      refine thnF h6 fun _ s7 ⟨x, H7, I7, r7, y7, st7, n7⟩ => ?_
      have I7' := I7.pinned (stat I7 n7) (T.obj _ _ st7)
      refine wpAny_mono (pg.run _ s7 _ H7 x u _ I7' r7 (step x H7 y7)) (fun _ s8 ⟨σ8, H8, I8, hw8, q8⟩ => ?_) fun u s' z => exitR u s' z
      refine wpAny_mono (pt.run _ s8 σ8 H8 _ I8 q8) (fun b s9 ⟨H9, I9, q9⟩ => ?_) fun u s' z => exitR u s' z
      have fin : ∀ {s' : Shared} {H' : Hp}, Inv (blkX X s3 H3 scope ce fp W') ([] ++ pinsAt fp s7.heap) σ8 H' s' → Nx H' → ∃ m, m < n ∧ ∃ i H', Inv (blkX X s3 H3 scope ce fp W') [] (wipe σ (own.map (·.2))) H' s' ∧ tn i s'.heap ∧ (∀ b ∈ fp, H' b = none) ∧ Wt i m H' := fun {s' H'} I' nx => by
        obtain ⟨m', hm, w'⟩ := hNx H' nx
        have pin' : ∀ b ∈ fp, ∀ o, s7.heap.get? b = some o → s'.heap.get? b = some o ∧ H' b = none := fun b hb o e =>
          let z := I'.pin (b, o) (List.mem_append_right _ (List.mem_append_right _ (mem_pinsAt hb e)))
          ⟨z.1, z.2.1⟩
        have hl : (wipe σ (own.map (·.2))).length = σ8.length := by rw [← hw8, wipe_length]
        refine ⟨m', hm, i + 1, H', (I'.unpinned (pins := [])).weak hl (fun j v e => ?_), T.keep _ _ _ st7 fun b hb o e => (pin' b hb o e).1, fun b hb => ?_, w'⟩
        · rw [← hw8] at e
          exact (wipe_some e).1
        · obtain ⟨o, e, _⟩ := T.obj _ _ st7 b hb
          exact (pin' b hb o e).2
      cases b with
      | false =>
        simp only [Bool.false_eq_true, if_false] at q9 ⊢
        exact fin I9 q9
      | true =>
        simp only [if_true] at q9 ⊢
        refine wpAny_mono (pe.run _ s9 σ8 H9 _ I9 q9) (fun z s10 ⟨yv, H10, I10, r10, acc, hD10, hz10, nx⟩ => ?_) fun u s' z => exitR u s' z
        exact app_ok (X := blkX X s3 H3 scope ce fp W') I10 hD10 hz10 r10 fun s11 I11 => fin I11 nx
  exact codeAny_compStart_list loop (T.self X.A 0 _ _ _ st4 loop)
end DL

set_option Elab.async false
set_option linter.all false
set_option maxRecDepth 100000
set_option autoImplicit false
set_option maxHeartbeats 4000000
/-! a list comprehension whose elements may raise, over trees -/
namespace DL
open PySem PySem.Spec PyProof.Rows L2
/-- what the block lets out, the block's own names gone -/
abbrev wipeX (E : XP) (vs : List Nat) : XP := fun cls fs s => E cls fs (wipeD s vs)
def dLcLX0 (g : TDG) (tt : TDT) (te : TD) (vs : List Nat) (Q : DV → DSt → Prop) (E : XP) : List D → List D → DSt → Prop
  | [], acc, sl => Q (.own (.lst acc)) sl
  | d :: r, acc, sl => g d sl fun s1 => tt s1 (fun b s2 => Br b (te s2 (fun x s3 => match pubV x with
    | .d y => acc.length < szl ∧ dLcLX0 g tt te vs Q E r (acc ++ [y]) (wipeD s3 vs)
    | _ => False) (wipeX E vs)) (dLcLX0 g tt te vs Q E r acc (wipeD s2 vs))) (wipeX E vs)
@[irreducible] def dLcLX (g : TDG) (tt : TDT) (te : TD) (vs : List Nat) (Q : DV → DSt → Prop) (E : XP) (ds acc : List D) (sl : DSt) : Prop := dLcLX0 g tt te vs Q E ds acc sl
theorem lcLX_nil {g : TDG} {tt : TDT} {te : TD} {vs : List Nat} {Q : DV → DSt → Prop} {E : XP} {acc : List D} {sl : DSt} : dLcLX g tt te vs Q E [] acc sl = Q (.own (.lst acc)) sl := by unfold dLcLX; rfl
theorem lcLX_cons {g : TDG} {tt : TDT} {te : TD} {vs : List Nat} {Q : DV → DSt → Prop} {E : XP} {d : D} {r acc : List D} {sl : DSt} : dLcLX g tt te vs Q E (d :: r) acc sl = g d sl fun s1 => tt s1 (fun b s2 => Br b (te s2 (fun x s3 => match pubV x with
    | .d y => acc.length < szl ∧ dLcLX g tt te vs Q E r (acc ++ [y]) (wipeD s3 vs)
    | _ => False) (wipeX E vs)) (dLcLX g tt te vs Q E r acc (wipeD s2 vs))) (wipeX E vs) := by unfold dLcLX; rfl
def dLcX (ti : TDI) (g : TDG) (tt : TDT) (te : TD) (vs : List Nat) : TD := fun sl Q E => ti sl (fun ds s1 => dLcLX g tt te vs Q E ds [] (wipeD s1 vs)) E
section
variable {X : Cx} {W : WX} {elt tg iter : Expr} {ifs : List Expr} {scope : Scope} {own : List (Str × Nat)} {pos spos : Pos} {ti : TDI} {g : TDG} {tt : TDT} {te : TD} {ix : List Nat}
theorem up_lcX {K : PySem.W.Frag} {EW : XK} {n : Nat} {g' : TG} {σ : L2.St} {H : Hp} {R : VK} (vs : List Nat) (hl : σ.length = n) (sg : GSem K n ix g' g) (hix : ∀ j, j ∈ ix → j ∈ vs) (h : up K (fun cls d _ H => EW cls d H) (dLcX ti g tt te vs) σ H R) : tLc (upI K (fun cls d _ H => EW cls d H) ti) g' (upT K (fun cls d _ H => EW cls d H) tt) (up K (fun cls d _ H => EW cls d H) te) vs σ H R := by
  obtain ⟨G, so, sl, Q, E, rep, q, hq, hx⟩ := h
  refine ⟨G, so, sl, _, E, rep, q, fun J H1 G1 ds s1 p0 it q1 => ?_, hx⟩
  obtain ⟨ps, prot, goes, stops, yields⟩ := it
  intro C hC
  have nsC : so.Nt C := p0.rep.h.there hC
  have rw1 := p0.rep.wipe vs
  have psC : ∀ a ∈ ps, a ≠ C := fun a ha z => (prot a ha).1 (z ▸ hC)
  -- the list so far stands at C; all else is as behind an expression
  refine ⟨fun i m H' => m = ds.length - i ∧ i ≤ ds.length ∧ ∃ G' sl' us acc, Post K G1 so (L2.wipe σ vs) H1 (wipeD s1 vs) H' G' sl' ∧ H' C = some (.lst us) ∧ G' C = none ∧ DAll K G' us acc ∧ dLcLX g tt te vs Q E (ds.drop i) acc sl',
    ⟨ds.length, by simp, Nat.zero_le _, G1, _, [], [], ?_, upd_same, p0.rep.h.ex.free hC, .nil, q1⟩, ?_⟩
  · have pv := PostV.list (K := K) (G := G1) (so := so) (ds := []) rw1.h hC .nil
    exact (pv.slots rw1).toPost
  rintro i m H' ⟨rfl, hi, G', sl', us, acc, t, hCl, gC, al, q2⟩
  have same : ∀ a ∈ ps, H' a = H1 a := fun a ha => by
    obtain ⟨n1, s, w⟩ := prot a ha
    exact keep_ne t.keep n1 s
  have noC : ∀ {sl'' : DSt} {σ'' : L2.St}, (∀ a, Own sl'' σ'' a → Own (wipeD s1 vs) (L2.wipe σ vs) a) → ¬ Own sl'' σ'' C := fun f z => (p0.rep.nown (own_wipe (f C z))).1 hC
  have borC : ∀ (j : Nat) (o : OO), (wipeD s1 vs)[j]? = some (some (.bor o)) → (L2.wipe σ vs)[j]? = some (some (.ref C)) → False := fun j o e1 e2 => by
    obtain ⟨v, f1, f2⟩ := rw1.slots j _ e1
    rw [e2] at f1; cases f1
    obtain ⟨b, z, _, k⟩ := f2
    cases z
    exact k.there hC
  by_cases hlt : i < ds.length
  · refine .inr ⟨goes i H' hlt same, fun H'' => ∃ G'' sl'' us' acc', Post K G1 so (L2.wipe σ vs) H1 (wipeD s1 vs) H'' G'' sl'' ∧ H'' C = some (.lst us') ∧ G'' C = none ∧ DAll K G'' us' acc' ∧ dLcLX g tt te vs Q E (ds.drop (i + 1)) acc' sl'',
      fun H'' ⟨G'', sl'', us', acc', h1, h2, h3, h4, h5⟩ => ⟨ds.length - (i + 1), by omega, rfl, hlt, G'', sl'', us', acc', h1, h2, h3, h4, h5⟩, fun x H2 y => ?_⟩
    obtain ⟨d, G2, ed, pv⟩ := yields i H' x H2 G' same t.ex t.rep.h y hlt
    have pe := pv.slots t.rep
    have C2 : H2 C = some (.lst us) := pe.keep C _ hCl nsC
    have g2 : G2 C = none := pe.frm C (by rw [hCl]; simp) gC nsC (noC t.sub)
    rw [List.drop_eq_getElem_cons hlt] at q2
    have ed' : ds[i] = d := by rw [List.getElem?_eq_getElem hlt] at ed; exact Option.some.inj ed
    rw [ed', lcLX_cons] at q2
    refine sg G2 so _ H2 sl' x d _ _ ((wipe_length σ vs).trans hl) pe.rep pe.val q2 fun σ3 sl3 t3 u3 q3 => ?_
    have e3 : L2.wipe σ3 vs = L2.wipe σ vs := by
      rw [← wipe_twice (σ := σ) vs]
      exact wipe_eq t3.ln fun j hj => (u3 j fun z => hj (hix j z)).1
    have sub3 : ∀ a, Own (wipeD sl3 vs) (L2.wipe σ3 vs) a → Own (wipeD s1 vs) (L2.wipe σ vs) a := fun a z => by
      rw [e3] at z
      by_cases w : Own sl' (L2.wipe σ vs) a
      · exact t.sub a w
      · obtain ⟨j, o, z1, z2⟩ := z
        have z2' : σ3[j]? = some (some (.ref a)) := by
          rw [← e3] at z2; exact (wipe_some z2).1
        have ow3 : Own sl3 σ3 a := ⟨j, o, (wipeD_some z1).1, z2'⟩
        obtain ⟨n1, g1, s1'⟩ := t3.rep.nown ow3
        exact absurd ow3 (t3.sub a n1 s1' w)
    have sub3' : ∀ a, Own sl3 σ3 a → Own sl' (L2.wipe σ vs) a := fun a z => by
      by_cases w : Own sl' (L2.wipe σ vs) a
      · exact w
      · obtain ⟨n1, g1, s1'⟩ := t3.rep.nown z
        exact absurd z (t3.sub a n1 s1' w)
    have bs3 : ∀ (j : Nat) (o : OO), sl3[j]? = some (some (.bor o)) → j ∉ vs → ∃ o', (wipeD s1 vs)[j]? = some (some (.bor o')) := fun j o e n => by
      rw [(u3 j fun z => n (hix j z)).2] at e
      exact t.bsub j o e
    have out : ∀ {Hx Gx : Hp} {sx : DSt}, Post K G2 so σ3 H2 sl3 Hx Gx sx → Post K G1 so (L2.wipe σ vs) H1 (wipeD s1 vs) Hx Gx (wipeD sx vs) := fun {Hx Gx sx} p4 => by
      refine ⟨t.ex.trans (pe.ex.trans p4.ex), ?_, fun a o e s => p4.keep a o (pe.keep a o (t.keep a o e s) s) s, fun a n1 g1 s w => ?_, fun a z => ?_, fun j o e => ?_⟩
      · have r := p4.rep.wipe vs; rw [e3] at r; exact r
      · have n2 : ¬ Own sl' (L2.wipe σ vs) a := fun z => w (t.sub a z)
        have h' : H' a ≠ none := by rw [keep_ne t.keep n1 s]; exact n1
        have h2 : H2 a ≠ none := by rw [keep_ne pe.keep h' s]; exact h'
        exact p4.frm a h2 (pe.frm a h' (t.frm a n1 g1 s w) s n2) s fun z => n2 (sub3' a z)
      · refine t.sub a (sub3' a (p4.sub a (own_wipe (vs := vs) ?_)))
        rw [e3]; exact z
      · obtain ⟨o1, e1⟩ := p4.bsub j o (wipeD_some e).1
        exact bs3 j o1 e1 (wipeD_some e).2
    have leave : ∀ {cls : Value} {dx : Option Addr} {Hx Gx : Hp} {fx : List (Str × D)} {sx : DSt}, Post K G2 so σ3 H2 sl3 Hx Gx sx → XdOk K Gx Hx dx fx → E cls fx (wipeD sx vs) → EW cls dx Hx := fun px xd zx =>
      hx _ _ _ _ _ _ (p0.trans ((out px).unwipe p0.rep)) xd zx
    refine ⟨e3, G2, so, sl3, _, _, t3.rep, q3, fun b H4 G4 s4 p4 q4 => ?_, fun cls dx Hx Gx fx sx px xd zx => ?_⟩
    rotate_left
    · exact leave px xd zx
    have C4 : H4 C = some (.lst us) := p4.keep C _ C2 nsC
    have n3C : ¬ Own sl3 σ3 C := fun z => noC t.sub (sub3' C z)
    have g4 : G4 C = none := p4.frm C (by rw [C2]; simp) g2 nsC n3C
    have k4 : ∀ a o, H1 a = some o → so.Nt a → H4 a = some o := fun a o e s => p4.keep a o (pe.keep a o (t.keep a o e s) s) s
    have f4 : ∀ a, H1 a ≠ none → G1 a = none → so.Nt a → ¬ Own (wipeD s1 vs) (L2.wipe σ vs) a → G4 a = none := fun a n1 g1 s w => by
      have n2 : ¬ Own sl' (L2.wipe σ vs) a := fun z => w (t.sub a z)
      have h' : H' a ≠ none := by rw [keep_ne t.keep n1 s]; exact n1
      have h2 : H2 a ≠ none := by rw [keep_ne pe.keep h' s]; exact h'
      exact p4.frm a h2 (pe.frm a h' (t.frm a n1 g1 s w) s n2) s fun z => n2 (sub3' a z)
    have bs4 : ∀ (j : Nat) (o : OO), s4[j]? = some (some (.bor o)) → j ∉ vs → ∃ o', (wipeD s1 vs)[j]? = some (some (.bor o')) := fun j o e n => by
      obtain ⟨o1, e1⟩ := p4.bsub j o e
      exact bs3 j o1 e1 n
    cases b with
    | false =>
      refine iteF ⟨G4, wipeD s4 vs, us, acc, ⟨t.ex.trans (pe.ex.trans p4.ex), ?_, k4, f4, fun a z => ?_, fun j o e => bs4 j o (wipeD_some e).1 (wipeD_some e).2⟩, C4, g4, al.mono (pe.ex.trans p4.ex), (brf q4)⟩
      · have r := p4.rep.wipe vs; rw [e3] at r; exact r
      · refine t.sub a (sub3' a (p4.sub a (own_wipe (vs := vs) ?_)))
        rw [e3]; exact z
    | true =>
      refine iteT ⟨G4, so, s4, _, _, p4.rep, (brt q4), fun y H5 G5 dy s5 p5' q5 => ?_, fun cls dx Hx Gx fx sx px xd zx => ?_⟩
      rotate_left
      · exact leave (p4.trans px) xd zx
      obtain ⟨G6, p5⟩ := p5'.pub
      have wv := p5.val
      split at q5
      · rename_i yd ey
        rw [ey] at wv
        have n4C : ¬ Own s4 σ3 C := fun z => n3C (p4.sub C z)
        have C5 : H5 C = some (.lst us) := p5.keep C _ C4 nsC
        have g5 : G6 C = none := p5.frm C (by rw [C4]; simp) g4 nsC n4C
        have k5 : ∀ a o, H1 a = some o → so.Nt a → H5 a = some o := fun a o e s => p5.keep a o (k4 a o e s) s
        have f5 : ∀ a, H1 a ≠ none → G1 a = none → so.Nt a → ¬ Own (wipeD s1 vs) (L2.wipe σ vs) a → G6 a = none := fun a n1 g1 s w => by
          have n2 : ¬ Own sl' (L2.wipe σ vs) a := fun z => w (t.sub a z)
          have h4 : H4 a ≠ none := by rw [keep_ne k4 n1 s]; exact n1
          exact p5.frm a h4 (f4 a n1 g1 s w) s fun z => n2 (sub3' a (p4.sub a z))
        have bs5 : ∀ (j : Nat) (o : OO), s5[j]? = some (some (.bor o)) → j ∉ vs → ∃ o', (wipeD s1 vs)[j]? = some (some (.bor o')) := fun j o e n => by
          obtain ⟨o1, e1⟩ := p5.bsub j o e
          exact bs4 j o1 e1 n
        have al5 : DAll K G6 us acc := al.mono (pe.ex.trans (p4.ex.trans p5.ex))
        have lu : us.length = acc.length := al5.length
        refine ⟨us, C5, by rw [lu, ← szl_eq]; exact q5.1, G6, wipeD s5 vs, us ++ [y], acc ++ [yd], ⟨t.ex.trans (pe.ex.trans (p4.ex.trans p5.ex)), ?_, fun a o e s => ?_, f5, fun a z => ?_, fun j o e => bs5 j o (wipeD_some e).1 (wipeD_some e).2⟩, upd_same, g5, al5.append (.cons wv .nil), q5.2⟩
        · have r := p5.rep.wipe vs
          rw [e3] at r
          -- the heap changes at C alone
          refine ⟨⟨fun a o e => ?_, fun a k e => ?_, r.h.ok⟩, r.len, fun j dv e => ?_, r.sep, r.bor, r.nse⟩
          · rw [upd_ne (ne_of_none e g5)]; exact r.h.ex a o e
          · exact (r.h.vol a k e).keep (Ex.refl _) (r.h.vol a k e).g (upd_ne fun z => nsC (z ▸ ⟨k, e⟩))
          · obtain ⟨v, f1, f2⟩ := r.slots j dv e
            refine ⟨v, f1, ?_⟩
            have key : ∀ a : Addr, a ≠ C → (upd H5 C (.lst (us ++ [y]))) a = H5 a := fun a z => upd_ne z
            cases dv with
            | d z => exact f2
            | src => exact f2
            | own o =>
              obtain ⟨a, r1, r2, r3, r4⟩ := f2
              subst r1
              have z : a ≠ C := fun z => by
                subst z
                exact noC (fun a z => t.sub a (sub3' a (p4.sub a (p5.sub a (own_wipe (vs := vs) (by rw [e3]; exact z)))))) ⟨j, o, e, f1⟩
              exact ⟨a, rfl, r2, r3, r4.keep (Ex.refl _) (key a z)⟩
            | bor o =>
              obtain ⟨a, r1, r3, r4⟩ := f2
              subst r1
              have z : a ≠ C := fun z => by
                subst z
                obtain ⟨o1, z1⟩ := bs5 j o (wipeD_some e).1 (wipeD_some e).2
                exact borC j o1 z1 f1
              exact ⟨a, rfl, r3, r4.keep (Ex.refl _) (key a z)⟩
            | see o => exact absurd e (r.nse j o)
        · rw [upd_ne (fun z => by subst z; rw [hC] at e; cases e)]; exact k5 a o e s
        · exact t.sub a (sub3' a (p4.sub a (p5.sub a (own_wipe (vs := vs) (by rw [e3]; exact z)))))
      · exact q5.elim
  · have e : i = ds.length := by omega
    subst e
    rw [List.drop_length, lcLX_nil] at q2
    refine .inl ⟨stops H' same, hq _ H' G' _ sl' ?_ q2⟩
    have pu := t.unwipe p0.rep
    refine (p0.thenE { pu with val := ⟨C, rfl, gC, nsC, us, hCl, al⟩, new := fun a o _ z => ?_, sepv := fun a o _ z w => ?_, nbs := fun a o j o' _ z e1 e2 => ?_ })
    · cases z; exact .inl hC
    · cases z; exact (p0.rep.nown (pu.sub _ w)).1 hC
    · cases z
      obtain ⟨o1, z1⟩ := t.bsub j o' e1
      have lkj : (L2.wipe σ vs)[j]? = some (some (.ref C)) := by rw [wipe_out (wipeD_some z1).2]; exact e2
      exact borC j o1 z1 lkj
/-- as a value, its exceptions let out -/
theorem de_lcX {EW : XK} {g' : TG} (hc : X.calm = true) (hN : X.N.Nodup) (hi : DI X (fun cls d _ H => EW cls d H) tg iter ti) (ok : BlkOk X.N X.env.scope scope own)
    (tk : L2N.Takes X (fun cls d _ H => EW cls d H)) (hst : X.stack = X.env :: X.outer) (hfr : X.env.frame = some X.env.locals)
    (hg : ∀ (s : Shared) (H : Hp) (C : Addr) (cl : List (Str × Addr)) (fp : List Addr), DG (blkX X s H scope (compEnvC scope cl C X.env) fp fun cls d _ H => EW cls d H) ix tg g' g)
    (ht : ∀ (s : Shared) (H : Hp) (C : Addr) (cl : List (Str × Addr)) (fp : List Addr), DTs (blkX X s H scope (compEnvC scope cl C X.env) fp fun cls d _ H => EW cls d H) (fun cls d _ H => EW cls d H) ifs tt)
    (he : ∀ (s : Shared) (H : Hp) (C : Addr) (cl : List (Str × Addr)) (fp : List Addr), DE (blkX X s H scope (compEnvC scope cl C X.env) fp fun cls d _ H => EW cls d H) (fun cls d _ H => EW cls d H) elt te)
    (hix : ∀ j, j ∈ ix → j ∈ own.map (·.2) := by decide) (hs : ∀ x, foldedSetIterable iter X.env x = pure x := by intro _; rfl) :
    DE X (fun cls d _ H => EW cls d H) (.ListComp elt [⟨tg, iter, ifs, 0⟩] scope pos) (dLcX ti g tt te (own.map (·.2))) := by
  have b := pe_lcX (pos := pos) (tt := upT X.K (fun cls d _ H => EW cls d H) tt) (te := up X.K (fun cls d _ H => EW cls d H) te) hc hN hi ok tk hst hfr (fun _ _ _ _ h _ => h) (fun s H C cl fp => (hg s H C cl fp).pg) ht he hs
  refine ⟨fun pins s σ H R I q => b.run pins s σ H R I ?_⟩
  exact up_lcX _ I.len (hg s H 0 [] []).sem hix q
/-- by what holds of the list so far -/
theorem lcLX_ind {vs : List Nat} {Q : DV → DSt → Prop} {E : XP} (I : List D → List D → DSt → Prop) (step : ∀ (N : List D → DSt → Prop) (d : D) (r acc : List D) (s : DSt), (∀ acc' s', I r acc' s' → N acc' s') → I (d :: r) acc s → g d s fun s1 => tt s1 (fun b s2 => Br b (te s2 (fun x s3 => match pubV x with
    | .d y => acc.length < szl ∧ N (acc ++ [y]) (wipeD s3 vs)
    | _ => False) (wipeX E vs)) (N acc (wipeD s2 vs))) (wipeX E vs)) (fin : ∀ acc s, I [] acc s → Q (.own (.lst acc)) s) : ∀ (ds acc : List D) (sl : DSt), I ds acc sl → dLcLX g tt te vs Q E ds acc sl
  | [], acc, sl, h => by rw [lcLX_nil]; exact fin _ _ h
  | d :: r, acc, sl, h => by
    rw [lcLX_cons]
    exact step (fun acc' s' => dLcLX g tt te vs Q E r acc' s') d r acc sl (fun acc' s' h' => lcLX_ind I step fin r acc' s' h') h
end
end DL

set_option Elab.async false
set_option linter.all false
set_option maxRecDepth 100000
set_option maxHeartbeats 4000000
namespace K03
open PySem PySem.Spec PyProof.Rows L2 DL
def topS (i : Nat) : Stmt := PySem.Challenge.pw_missingmiles_k03_sums_and_products_of_ra.main.body.getD i (.Pass ⟨0, 0, 0, 0⟩)
abbrev s_is_whole : Stmt := topS 9
abbrev i_is_whole : Nat := 0
abbrev s_is_ratio : Stmt := topS 10
abbrev i_is_ratio : Nat := 1
abbrev s_lowest : Stmt := topS 11
abbrev i_lowest : Nat := 2
abbrev s_ratio_of : Stmt := topS 12
abbrev i_ratio_of : Nat := 3
abbrev s_plus : Stmt := topS 13
abbrev i_plus : Nat := 4
abbrev s_times : Stmt := topS 14
abbrev i_times : Nat := 5
abbrev s_below : Stmt := topS 15
abbrev i_below : Nat := 6
abbrev s_added : Stmt := topS 16
abbrev i_added : Nat := 7
abbrev s_multiplied : Stmt := topS 17
abbrev i_multiplied : Nat := 8
abbrev s_is_less : Stmt := topS 18
abbrev i_is_less : Nat := 9
abbrev s__law_source : Stmt := topS 20
abbrev i__law_source : Nat := 10
abbrev s__law_draw : Stmt := topS 21
abbrev i__law_draw : Nat := 11
abbrev s__law_of : Stmt := topS 22
abbrev i__law_of : Nat := 12
abbrev s__law_same : Stmt := topS 23
abbrev i__law_same : Nat := 13
abbrev s__law_fields : Stmt := topS 24
abbrev i__law_fields : Nat := 14
abbrev s__law_ask : Stmt := topS 25
abbrev i__law_ask : Nat := 15
abbrev s__law_low : Stmt := topS 26
abbrev i__law_low : Nat := 16
abbrev s__law_plus : Stmt := topS 27
abbrev i__law_plus : Nat := 17
abbrev s__law_times : Stmt := topS 28
abbrev i__law_times : Nat := 18
abbrev s__law_less : Stmt := topS 29
abbrev i__law_less : Nat := 19
abbrev s__law_total : Stmt := topS 30
abbrev i__law_total : Nat := 20
abbrev s__law_wide : Stmt := topS 31
abbrev i__law_wide : Nat := 21
abbrev s__law_bare : Stmt := topS 32
abbrev i__law_bare : Nat := 22
abbrev s__law_sum_and_product : Stmt := topS 33
abbrev i__law_sum_and_product : Nat := 23
abbrev s_law : Stmt := topS 34
abbrev i_law : Nat := 24
abbrev sx_InvalidRatio : Stmt := inClass (topS 4) 0
abbrev xf_InvalidRatio : List (Str × (Str ⊕ Str)) := [("code", .inl "InvalidRatio"), ("given", .inr "given")]
abbrev xd_InvalidRatio (given : D) : List (Str × D) := [("given", given), ("code", .str "InvalidRatio")]
theorem xq_InvalidRatio (given : D) : xdD ["given"] xf_InvalidRatio [given] = xd_InvalidRatio given := by first | rfl | kernel_rfl
theorem xr_InvalidRatio {E : Value → List (Str × D) → Prop} {v : Value} {given : D} (h : E v (xd_InvalidRatio given)) : E v (xdD ["given"] xf_InvalidRatio [given]) := by rw [xq_InvalidRatio]; exact h
structure Tx (P : Program) (K : PySem.W.Frag) (mg : Str → Option Value) (base : Heap) (a : Nat → Addr) (d : Nat → FuncData) : Prop where
  tb : ∀ q ∈ lamFns K, LamX.TabB base mg q.1 q.2.1
  F_is_whole : FunD K "is_whole" "is_whole" (defArgs s_is_whole) (defBody s_is_whole) (defScope s_is_whole) [] [] (a i_is_whole) (d i_is_whole)
  m_is_whole : mg "is_whole" = some (.ref (a i_is_whole))
  F_is_ratio : FunD K "is_ratio" "is_ratio" (defArgs s_is_ratio) (defBody s_is_ratio) (defScope s_is_ratio) [] [] (a i_is_ratio) (d i_is_ratio)
  m_is_ratio : mg "is_ratio" = some (.ref (a i_is_ratio))
  F_lowest : FunD K "lowest" "lowest" (defArgs s_lowest) (defBody s_lowest) (defScope s_lowest) [] [] (a i_lowest) (d i_lowest)
  m_lowest : mg "lowest" = some (.ref (a i_lowest))
  F_ratio_of : FunD K "ratio_of" "ratio_of" (defArgs s_ratio_of) (defBody s_ratio_of) (defScope s_ratio_of) [] [] (a i_ratio_of) (d i_ratio_of)
  m_ratio_of : mg "ratio_of" = some (.ref (a i_ratio_of))
  F_plus : FunD K "plus" "plus" (defArgs s_plus) (defBody s_plus) (defScope s_plus) [] [] (a i_plus) (d i_plus)
  m_plus : mg "plus" = some (.ref (a i_plus))
  F_times : FunD K "times" "times" (defArgs s_times) (defBody s_times) (defScope s_times) [] [] (a i_times) (d i_times)
  m_times : mg "times" = some (.ref (a i_times))
  F_below : FunD K "below" "below" (defArgs s_below) (defBody s_below) (defScope s_below) [] [] (a i_below) (d i_below)
  m_below : mg "below" = some (.ref (a i_below))
  F_added : FunD K "added" "added" (defArgs s_added) (defBody s_added) (defScope s_added) [] [] (a i_added) (d i_added)
  m_added : mg "added" = some (.ref (a i_added))
  F_multiplied : FunD K "multiplied" "multiplied" (defArgs s_multiplied) (defBody s_multiplied) (defScope s_multiplied) [] [] (a i_multiplied) (d i_multiplied)
  m_multiplied : mg "multiplied" = some (.ref (a i_multiplied))
  F_is_less : FunD K "is_less" "is_less" (defArgs s_is_less) (defBody s_is_less) (defScope s_is_less) [] [] (a i_is_less) (d i_is_less)
  m_is_less : mg "is_less" = some (.ref (a i_is_less))
  F__law_source : FunD K "_law_source" "_law_source" (defArgs s__law_source) (defBody s__law_source) (defScope s__law_source) [] [] (a i__law_source) (d i__law_source)
  m__law_source : mg "_law_source" = some (.ref (a i__law_source))
  F__law_draw : FunD K "_law_draw" "_law_draw" (defArgs s__law_draw) (defBody s__law_draw) (defScope s__law_draw) [] [] (a i__law_draw) (d i__law_draw)
  m__law_draw : mg "_law_draw" = some (.ref (a i__law_draw))
  F__law_of : FunD K "_law_of" "_law_of" (defArgs s__law_of) (defBody s__law_of) (defScope s__law_of) [] [] (a i__law_of) (d i__law_of)
  m__law_of : mg "_law_of" = some (.ref (a i__law_of))
  F__law_same : FunD K "_law_same" "_law_same" (defArgs s__law_same) (defBody s__law_same) (defScope s__law_same) [] [] (a i__law_same) (d i__law_same)
  m__law_same : mg "_law_same" = some (.ref (a i__law_same))
  F__law_fields : FunD K "_law_fields" "_law_fields" (defArgs s__law_fields) (defBody s__law_fields) (defScope s__law_fields) [] [] (a i__law_fields) (d i__law_fields)
  m__law_fields : mg "_law_fields" = some (.ref (a i__law_fields))
  F__law_ask : FunD K "_law_ask" "_law_ask" (defArgs s__law_ask) (defBody s__law_ask) (defScope s__law_ask) [] [] (a i__law_ask) (d i__law_ask)
  m__law_ask : mg "_law_ask" = some (.ref (a i__law_ask))
  F__law_low : FunD K "_law_low" "_law_low" (defArgs s__law_low) (defBody s__law_low) (defScope s__law_low) [] [] (a i__law_low) (d i__law_low)
  m__law_low : mg "_law_low" = some (.ref (a i__law_low))
  F__law_plus : FunD K "_law_plus" "_law_plus" (defArgs s__law_plus) (defBody s__law_plus) (defScope s__law_plus) [] [] (a i__law_plus) (d i__law_plus)
  m__law_plus : mg "_law_plus" = some (.ref (a i__law_plus))
  F__law_times : FunD K "_law_times" "_law_times" (defArgs s__law_times) (defBody s__law_times) (defScope s__law_times) [] [] (a i__law_times) (d i__law_times)
  m__law_times : mg "_law_times" = some (.ref (a i__law_times))
  F__law_less : FunD K "_law_less" "_law_less" (defArgs s__law_less) (defBody s__law_less) (defScope s__law_less) [] [] (a i__law_less) (d i__law_less)
  m__law_less : mg "_law_less" = some (.ref (a i__law_less))
  F__law_total : FunD K "_law_total" "_law_total" (defArgs s__law_total) (defBody s__law_total) (defScope s__law_total) [] [] (a i__law_total) (d i__law_total)
  m__law_total : mg "_law_total" = some (.ref (a i__law_total))
  F__law_wide : FunD K "_law_wide" "_law_wide" (defArgs s__law_wide) (defBody s__law_wide) (defScope s__law_wide) [] [] (a i__law_wide) (d i__law_wide)
  m__law_wide : mg "_law_wide" = some (.ref (a i__law_wide))
  F__law_bare : FunD K "_law_bare" "_law_bare" (defArgs s__law_bare) (defBody s__law_bare) (defScope s__law_bare) [] [] (a i__law_bare) (d i__law_bare)
  m__law_bare : mg "_law_bare" = some (.ref (a i__law_bare))
  F__law_sum_and_product : FunD K "_law_sum_and_product" "_law_sum_and_product" (defArgs s__law_sum_and_product) (defBody s__law_sum_and_product) (defScope s__law_sum_and_product) [] [] (a i__law_sum_and_product) (d i__law_sum_and_product)
  m__law_sum_and_product : mg "_law_sum_and_product" = some (.ref (a i__law_sum_and_product))
  F_law : FunD K "law" "law" (defArgs s_law) (defBody s_law) (defScope s_law) [] [] (a i_law) (d i_law)
  x_InvalidRatio : XCls P K mg (He.ga K "InvalidRatio") ["given"] xf_InvalidRatio
  xe_InvalidRatio : ErrC K (csA K) (He.ga K "InvalidRatio")
  m_InvalidRatio : mg "InvalidRatio" = some (.ref (He.ga K "InvalidRatio"))
  m_MilesError : mg "MilesError" = some (.ref (He.ga K "MilesError"))
  m_Missing : mg "Missing" = some (.ref (He.ga K "Missing"))
  m_NothingLeft : mg "NothingLeft" = some (.ref (He.ga K "NothingLeft"))
  n_abs : mg "abs" = none
  n_bool : mg "bool" = none
  n_int : mg "int" = none
  n_isinstance : mg "isinstance" = none
  n_len : mg "len" = none
  n_list : mg "list" = none
  n_range : mg "range" = none
  n_repr : mg "repr" = none
  n_super : mg "super" = none
  n_tuple : mg "tuple" = none
  b_gcd : mg "gcd" = some (.builtin "math.gcd")
  c_ZERO : GlobD K mg "ZERO" (.tup [.int 0, .int 1])
  c_ONE : GlobD K mg "ONE" (.tup [.int 1, .int 1])
theorem cutV_map (ns : List Int) (lo hi : Option Int) : cutV (ns.map V.int) lo hi = (cut ns lo hi).map V.int := by
  unfold cutV cut
  rw [List.length_map, List.map_take, List.map_drop]
theorem at_mem {α : Type} {xs : List α} {n : Int} (h0 : 0 ≤ n) (h1 : n < (xs.length : Int)) : ∃ x, atI xs n = some x ∧ x ∈ xs := by
  have hj : n.toNat < xs.length := by omega
  refine ⟨xs[n.toNat], ?_, List.getElem_mem hj⟩
  unfold atI ixN
  rw [if_pos h0, if_pos h1]
  exact List.getElem?_eq_getElem hj
theorem small_len {n : Nat} (h : n ≤ szl) : (n : Int) < 2 ^ 64 := by
  have : szl = 16777216 := rfl
  omega
section
variable {P : Program} {w : World} {K : PySem.W.Frag} {mg : Str → Option Value} {base : Heap} {a : Nat → Addr} {d : Nat → FuncData}

/-! ### the source -/
abbrev n__law_source : List Str := ["_law_script", "_law_seed", "_law_cell"]
theorem sc__law_source : FnScope n__law_source ["_law_script"] (defScope s__law_source) := ⟨rfl, rfl, rfl, by decide +kernel, rfl, by decide +kernel, by decide +kernel⟩
theorem ok__law_source (T : Tx P K mg base a d) : FnR P w K mg base 1 (a i__law_source) (d i__law_source) ["_law_script"] (spSource K) := by
  refine fnR_of T.F__law_source sc__law_source (fun vs H Q E h => ?_) (fun cdv A outer s H vs Q E hr hg h => ?_)
  · obtain ⟨c, ns, rfl, _⟩ := h; rfl
  · obtain ⟨c, ns, rfl, hS, hlen, q⟩ := h
    refine ⟨_, pss_cons (ps_set (i := 1) sc__law_source.nd rfl (.inl rfl) pe_int)
      (pss_cons (ps_for (passes_of rfl) rfl (pi_list (pe_slice sl_list (pv 0) po_none (po_some pe_int))) (pg_name (i := 2) sc__law_source.nd rfl (.inl rfl))
        (pss_one (ps_set (i := 1) sc__law_source.nd rfl (.inl rfl) (pe_op op_mod (pe_callTy call_int1 (by rfl) T.n_int (by decide +kernel) (pa_cons (pe_op op_add (pe_op op_add (pe_op op_mul (pv 1) pe_int) (pe_op op_mod (pe_callTy call_int1 (by rfl) T.n_int (by decide +kernel) (pa_cons (pv 2) pa_nil)) pe_int)) pe_int) pa_nil)) pe_int))))
      (pss_one (ps_ret (pe_lst (pa_cons (pe_callTy call_list_of (by rfl) T.n_list (by decide +kernel) (pa_cons (pe_slice sl_list (pv 0) po_none (po_some pe_int)) pa_nil)) (pa_cons pe_int (pa_cons pe_int (pa_cons (pv 1) (pa_cons pe_int pa_nil))))))))), ?_⟩
    refine ⟨.ref c, rfl, 63, rfl, c, ns.map V.int, rfl, hS, fun l nl => ⟨l, rfl, ⟨_, SqL.of upd_same⟩, ?_⟩⟩
    refine for_list (K := K) (a := l) (xs := cutV (ns.map V.int) none (some 63)) (fun i σ H2 => ∃ sd v, σ = [some (.ref c), some (.int sd), v] ∧ Ex H H2 ∧ H2 l = some (.lst (cutV (ns.map V.int) none (some 63))) ∧ 0 ≤ sd ∧ sd < 4294967296) ⟨10040, none, rfl, Ex.new nl, upd_same, by decide, by decide⟩ (fun i σ H2 _ ⟨_, _, _, _, e, _⟩ => SqL.of e) ?_ ?_
    · rintro i y σ H2 hi ⟨sd, v, rfl, ex, el, h0, h1⟩
      obtain ⟨z, rfl⟩ : ∃ z, y = V.int z := by
        rw [cutV_map, List.getElem?_map] at hi
        cases e : (cut ns none (some 63))[i]? with
        | none => rw [e] at hi; cases hi
        | some z => rw [e] at hi; exact ⟨z, (Option.some.inj hi).symm⟩
      refine ⟨_, rfl, _, _, rfl, rfl, .inr ⟨by decide, by decide⟩, _, rfl, .inl ⟨z, rfl, _, _, rfl, rfl, (by show (0 : Int) < 2147483353; decide), _, _, rfl, rfl, _, _, rfl, rfl, .inl ⟨_, rfl, _, _, rfl, rfl, (by show (0 : Int) < 2147483587; decide), ?_⟩⟩⟩
      refine ⟨_, _, rfl, ex, el, Int.emod_nonneg _ (by decide), Int.lt_trans (Int.emod_lt_of_pos _ (by decide)) (by decide)⟩
    · rintro σ H2 ⟨sd, v, rfl, ex, el, h0, h1⟩
      refine ⟨.ref c, rfl, 63, rfl, c, ns.map V.int, rfl, ex_l ex hS, fun l2 n2 => ⟨l2, _, rfl, .inl (SqL.of upd_same), fun l3 n3 => ?_⟩⟩
      refine ⟨.int sd, rfl, by show 5 ≤ sizeLine; decide, fun p np => ?_⟩
      have n23 : H2 l3 = none := (Ex.new (o := .lst (cutV (ns.map V.int) none (some 63))) n2).free n3
      have e3 : Ex H2 (upd (upd (upd H2 l2 (.lst (cutV (ns.map V.int) none (some 63)))) l3 (.lst (cutV (ns.map V.int) none (some 63)))) p (.lst [.ref l3, .int 0, .int 0, .int sd, .int 0])) := (Ex.new n2).trans ((Ex.new n3).trans (Ex.new np))
      have ne : l3 ≠ p := fun e => by subst e; rw [upd_same] at np; cases np
      refine q _ p l3 (cut ns none (some 63)) sd (ex.trans e3) ne upd_same (by rw [upd_ne ne, upd_same, cutV_map]) ?_ h0 h1
      exact Nat.le_trans (by unfold cut; rw [List.length_take, List.length_drop]; omega) hlen
/-! ### a draw -/
abbrev n__law_draw : List Str := ["_law_src", "_law_many", "_law_cell", "_law_digit", "_law_root", "_law_grown"]
theorem sc__law_draw : FnScope n__law_draw ["_law_src", "_law_many"] (defScope s__law_draw) := ⟨rfl, rfl, rfl, by decide +kernel, rfl, by decide +kernel, by decide +kernel⟩
def SrcAt (p : Addr) (H H2 : Hp) (c : Addr) (i r sd n : Int) : Prop := (∀ b, b ≠ p → H2 b = H b) ∧ H2 p = some (.lst [.ref c, .int i, .int r, .int sd, .int n]) ∧ 0 ≤ i ∧ 0 ≤ r ∧ 0 ≤ sd ∧ sd < 4294967296
theorem small_log {m : Int} (h0 : 0 < m) (h : m < 2 ^ 64) : m.natAbs.log2 < 9000 := by
  have : m.natAbs.log2 < 64 := (Nat.log2_lt (by omega)).mpr (by omega)
  omega
theorem mod_lt64 {x m : Int} (h0 : 0 < m) (h : m ≤ 4294967296) : (-(2 ^ 64) < x % m ∧ x % m < 2 ^ 64) ∧ 0 ≤ x % m ∧ x % m < m := by
  have h1 := Int.emod_nonneg x (show m ≠ 0 by omega)
  have h2 := Int.emod_lt_of_pos x h0
  exact ⟨⟨by omega, by omega⟩, h1, h2⟩
theorem ok__law_draw (T : Tx P K mg base a d) : FnG P w K mg base 1 (a i__law_draw) (d i__law_draw) ["_law_src", "_law_many"] spDraw := by
  refine FnR.g (fnR_of T.F__law_draw sc__law_draw (fun vs H Q E h => ?_) (fun cdv A outer s H vs Q E hr hg h => ?_)) (fun args Q E h => ?_)
  · obtain ⟨G, so, as, QD, ED, _, w1, ⟨m, rfl, _⟩, _⟩ := h
    exact w1.length
  · obtain ⟨G, so, as, QD, ED, hrep, w1, ⟨m, rfl, hm0, hm1, hq⟩, hQ, _⟩ := h
    obtain ⟨v1, v2, rfl, ⟨p, hps, rfl⟩, wm, _⟩ := w1.v2
    cases wm
    obtain ⟨gp, c, ms, i0, r0, sd0, n0, hp, hc, hms, hi0, hr0, hs0, hs1⟩ : SrcOk K G H p := hrep.vol p .src hps
    -- what is handed back
    have fin : ∀ (H2 : Hp) (i r sd n k : Int), SrcAt p H H2 c i r sd n → 0 ≤ k → k < m → Q (.int k) H2 := fun H2 i r sd n k ⟨e1, e2, e3, e4, e5, e6⟩ k0 k1 => by
      refine hQ (.int k) H2 G (.d (.int k)) ⟨Ex.refl G, ⟨fun b o e => ?_, fun b kd e => ?_, hrep.ok⟩, fun b o e sb => ?_, fun _ _ g _ => g, .int k, fun _ _ z => (nomatch z), fun _ z => (nomatch z)⟩ (hq k k0 k1)
      · rw [e1 b (fun z => by subst z; rw [gp] at e; cases e)]; exact hrep.ex b o e
      · by_cases z : b = p
        · subst z
          obtain rfl := hrep.ok.uq _ _ _ e hps
          exact ⟨gp, c, ms, i, r, sd, n, e2, hc, hms, e3, e4, e5, e6⟩
        · exact (hrep.vol b kd e).keep (Ex.refl G) (hrep.vol b kd e).g (e1 b z)
      · rw [e1 b (fun z => sb (by rw [z]; exact ⟨.src, hps⟩))]; exact e
    have cells : ∀ {H2 : Hp}, (∀ b, b ≠ p → H2 b = H b) → SqL K H2 c (ms.map V.int) := fun {H2} e1 => ex_l (fun b o e => by
      rw [e1 b (fun z => by subst z; rw [gp] at e; cases e)]; exact hrep.ex b o e) hc
    obtain ⟨t2, pt2, key⟩ : ∃ t2, PSs (cxOf (L2N.CX P w) P w K mg base n__law_draw "_law_draw" (defScope s__law_draw) (a i__law_draw) cdv A outer s H E) ((defBody s__law_draw).drop 1) t2 ∧
        ∀ (H2 : Hp) (i r sd n : Int) (y : Option V), SrcAt p H H2 c i r sd n → t2 { nx := fun _ H' => Q .non H', rt := Q } [some (.ref p), some (.int m), y, none, none, none] H2 := by
      refine ⟨_, pss_cons (ps_if (pt_cmpR op_ge (pe_ix ix_list (pv 0) pe_int (fun _ _ => rfl)) (pv 1) (nomark _))
          (pss_cons (ps_set (i := 3) sc__law_draw.nd rfl (.inl rfl) (pe_op op_mod (pe_callTy call_int1 (by rfl) T.n_int (by decide +kernel) (pa_cons (pe_ix ix_list (pv 0) pe_int (fun _ _ => rfl)) pa_nil)) (pv 1)))
          (pss_cons (ps_asg (pe_op op_fdivW (pe_ix ix_list (pv 0) pe_int (fun _ _ => rfl)) (pv 1)) (pg_sub (pv 0) pe_int set_list))
          (pss_one (ps_ret (pv 3))))) pss_nil)
        (pss_cons (ps_asg (pe_op op_add (pe_ix ix_list (pv 0) pe_int (fun _ _ => rfl)) pe_int) (pg_sub (pv 0) pe_int set_list))
        (pss_cons (ps_set (i := 4) sc__law_draw.nd rfl (.inl rfl) (pe_op op_mod (pe_callTy call_int1 (by rfl) T.n_int (by decide +kernel) (pa_cons (pe_op op_add (pe_ix ix_list (pv 0) pe_int (fun _ _ => rfl)) (pe_op op_mul (pe_ix ix_list (pv 0) pe_int (fun _ _ => rfl)) pe_int)) pa_nil)) pe_int))
        (pss_cons (ps_set (i := 5) sc__law_draw.nd rfl (.inl rfl) (pe_op op_mul (pe_op op_mod (pe_callTy call_int1 (by rfl) T.n_int (by decide +kernel) (pa_cons (pe_op op_mul (pv 4) (pv 4)) pa_nil)) pe_int) (pe_op op_add (pe_op op_mod (pe_callTy call_int1 (by rfl) T.n_int (by decide +kernel) (pa_cons (pv 4) pa_nil)) pe_int) pe_int)))
        (pss_cons (ps_asg (pe_op op_mod (pe_callTy call_int1 (by rfl) T.n_int (by decide +kernel) (pa_cons (pe_op op_add (pe_op op_add (pv 5) (pe_op op_mul pe_int (pv 4))) pe_int) pa_nil)) pe_int) (pg_sub (pv 0) pe_int set_list))
        (pss_one (ps_ret (pe_op op_mod (pe_callTy call_int1 (by rfl) T.n_int (by decide +kernel) (pa_cons (pe_op op_add (pe_op op_fdiv (pe_ix ix_list (pv 0) pe_int (fun _ _ => rfl)) pe_int) (pe_op op_mul (pe_op op_mod (pe_callTy call_int1 (by rfl) T.n_int (by decide +kernel) (pa_cons (pe_ix ix_list (pv 0) pe_int (fun _ _ => rfl)) pa_nil)) pe_int) pe_int)) pa_nil)) (pv 1)))))))), ?_⟩
      rintro H2 i r sd n y ⟨e1, e2, e3, e4, e5, e6⟩
      have e2L : SqL K H2 p [.ref c, .int i, .int r, .int sd, .int n] := SqL.of e2
      refine ⟨.ref p, rfl, p, _, 2, .int r, rfl, rfl, e2L, rfl, .int m, rfl, r, m, rfl, rfl, _, rfl, ite2 (fun h => ?_) (fun h => ?_)⟩
      · have hrm : m ≤ r := of_decide_eq_true h
        refine ⟨.ref p, rfl, p, _, 2, .int r, rfl, rfl, e2L, rfl, .inl ⟨r, rfl, .int m, rfl, r, m, rfl, rfl, hm0, ?_⟩⟩
        refine ⟨.ref p, rfl, p, _, 2, .int r, rfl, rfl, e2L, rfl, .int m, rfl, r, m, rfl, rfl, ⟨hm0, small_log hm0 hm1⟩, .ref p, rfl, p, _, 2, 2, rfl, rfl, e2, rfl, ?_⟩
        refine ⟨.int (r % m), rfl, ?_⟩
        refine fin _ i (r / m) sd n (r % m) ⟨fun b hb => by rw [upd_ne hb]; exact e1 b hb, upd_same, e3, Int.ediv_nonneg e4 (by omega), e5, e6⟩ (Int.emod_nonneg _ (by omega)) (Int.emod_lt_of_pos _ hm0)
      · refine ⟨.ref p, rfl, p, _, 4, .int n, rfl, rfl, e2L, rfl, n, 1, rfl, rfl, .ref p, rfl, p, _, 4, 4, rfl, rfl, e2, rfl, ?_⟩
        have e3L : SqL K (upd H2 p (.lst ([V.ref c, .int i, .int r, .int sd, .int n].set 4 (.int (n + 1))))) p [.ref c, .int i, .int r, .int sd, .int (n + 1)] := SqL.of upd_same
        refine ⟨.ref p, rfl, p, _, 3, .int sd, rfl, rfl, e3L, rfl, .ref p, rfl, p, _, 4, .int (n + 1), rfl, rfl, e3L, rfl, n + 1, 9431, rfl, rfl, .inr ⟨by decide, by decide⟩, sd, _, rfl, rfl, .inl ⟨_, rfl, _, 2147483629, rfl, rfl, (by show (0 : Int) < 2147483629; decide), ?_⟩⟩
        obtain ⟨q1, q2, q3⟩ := mod_lt64 (x := sd + (n + 1) * 9431) (m := 2147483629) (by decide) (by decide)
        refine ⟨_, rfl, _, rfl, _, _, rfl, rfl, .inl q1, .inl ⟨_, rfl, _, 2147483399, rfl, rfl, (by show (0 : Int) < 2147483399; decide), _, rfl, .inl ⟨_, rfl, _, 39989, rfl, rfl, (by show (0 : Int) < 39989; decide), _, 9, rfl, rfl, _, _, rfl, rfl, .inl (mod_lt64 (by decide) (by decide)).1, ?_⟩⟩⟩
        refine ⟨_, rfl, _, rfl, 29989, _, rfl, rfl, .inl ⟨by decide, by decide⟩, _, _, rfl, rfl, _, 991, rfl, rfl, .inl ⟨_, rfl, _, 2147483549, rfl, rfl, (by show (0 : Int) < 2147483549; decide), .ref p, rfl, p, _, 3, 3, rfl, rfl, upd_same, rfl, ?_⟩⟩
        generalize hg2 : ((sd + (n + 1) * 9431) % 2147483629 * ((sd + (n + 1) * 9431) % 2147483629) % 2147483399 * ((sd + (n + 1) * 9431) % 2147483629 % 39989 + 9) + 29989 * ((sd + (n + 1) * 9431) % 2147483629) + 991) % 2147483549 = sd2
        have s2 : 0 ≤ sd2 := by rw [← hg2]; exact Int.emod_nonneg _ (by decide)
        have s3 : sd2 < 4294967296 := by rw [← hg2]; exact Int.lt_trans (Int.emod_lt_of_pos _ (by decide)) (by decide)
        dsimp only
        rw [hg2, upd_upd]
        have e4L : SqL K (upd H2 p (.lst (([V.ref c, .int i, .int r, .int sd, .int n].set 4 (.int (n + 1))).set 3 (.int sd2)))) p [.ref c, .int i, .int r, .int sd2, .int (n + 1)] := SqL.of upd_same
        refine ⟨.ref p, rfl, p, _, 3, .int sd2, rfl, rfl, e4L, rfl, sd2, 73, rfl, rfl, ⟨by decide, by decide⟩, .ref p, rfl, p, _, 3, .int sd2, rfl, rfl, e4L, rfl, .inl ⟨sd2, rfl, sd2, 8521, rfl, rfl, (by show (0 : Int) < 8521; decide), _, 57, rfl, rfl, .inr ⟨by decide, by decide⟩, _, _, rfl, rfl, .inl ⟨_, rfl, .int m, rfl, _, m, rfl, rfl, hm0, ?_⟩⟩⟩
        exact fin _ i r sd2 (n + 1) _ ⟨fun b hb => by rw [upd_ne hb]; exact e1 b hb, upd_same, e3, e4, s2, s3⟩ (Int.emod_nonneg _ (by omega)) (Int.emod_lt_of_pos _ hm0)
    refine ⟨_, pss_cons (ps_if (PW.pt (pw_and (pt_cmpR op_lt (pe_ix ix_list (pv 0) pe_int (fun _ _ => rfl)) (pv 1) (nomark _)) (pw_and1 (pt_cmpR op_lt (pe_ix ix_list (pv 0) pe_int (fun _ _ => rfl)) (pe_callB call_len_seq (by rfl) T.n_len PySem.boot_len (pa_cons (pe_ix ix_list (pv 0) pe_int (fun _ _ => rfl)) pa_nil)) (nomark _)))))
        (pss_cons (ps_set (i := 2) sc__law_draw.nd rfl (.inl rfl) (pe_ix ix_list (pe_ix ix_list (pv 0) pe_int (fun _ _ => rfl)) (pe_ix ix_list (pv 0) pe_int (fun _ _ => rfl)) (fun _ _ => rfl)))
        (pss_cons (ps_asg (pe_op op_add (pe_ix ix_list (pv 0) pe_int (fun _ _ => rfl)) pe_int) (pg_sub (pv 0) pe_int set_list))
        (pss_cons (ps_asg (pe_op op_mod (pe_callTy call_int1 (by rfl) T.n_int (by decide +kernel) (pa_cons (pe_op op_add (pe_op op_add (pe_op op_mul (pe_ix ix_list (pv 0) pe_int (fun _ _ => rfl)) pe_int) (pe_op op_mod (pe_callTy call_int1 (by rfl) T.n_int (by decide +kernel) (pa_cons (pv 2) pa_nil)) pe_int)) pe_int) pa_nil)) pe_int) (pg_sub (pv 0) pe_int set_list))
        (pss_one (ps_asg (pe_ifExp (pt_cmpR op_ge (pv 2) (pe_op op_pow pe_int pe_int) (nomark _)) (pv 2) pe_int) (pg_sub (pv 0) pe_int set_list)))))) pss_nil) pt2, ?_⟩
    have hpL : SqL K H p [.ref c, .int i0, .int r0, .int sd0, .int n0] := SqL.of hp
    have S0 : SrcAt p H H c i0 r0 sd0 n0 := ⟨fun _ _ => rfl, hp, hi0, hr0, hs0, hs1⟩
    refine ⟨.ref p, rfl, p, _, 2, .int r0, rfl, rfl, hpL, rfl, .int m, rfl, r0, m, rfl, rfl, _, rfl, ite2 (fun h => ?_) (fun h => ?_)⟩
    · refine ⟨.ref p, rfl, p, _, 1, .int i0, rfl, rfl, hpL, rfl, .ref p, rfl, p, _, 0, .ref c, rfl, rfl, hpL, rfl, c, ms.map V.int, rfl, .inl (cells fun _ _ => rfl), i0, _, rfl, rfl, _, rfl, ite2 (fun h2 => ?_) (fun h2 => ?_)⟩
      · have hlt : i0 < ((ms.map V.int).length : Int) := of_decide_eq_true h2
        rw [List.length_map] at hlt
        have hj : i0.toNat < ms.length := by omega
        have atc : atI (ms.map V.int) i0 = some (.int ms[i0.toNat]) := at_of (j := i0.toNat) (by omega) (by rw [List.getElem?_map, List.getElem?_eq_getElem hj]; rfl)
        generalize ms[i0.toNat] = z at atc
        refine ⟨.ref p, rfl, p, _, 0, .ref c, rfl, rfl, hpL, rfl, .ref p, rfl, p, _, 1, .int i0, rfl, rfl, hpL, rfl, c, _, i0, .int z, rfl, rfl, cells (fun _ _ => rfl), atc, ?_⟩
        refine ⟨.ref p, rfl, p, _, 1, .int i0, rfl, rfl, hpL, rfl, i0, 1, rfl, rfl, .ref p, rfl, p, _, 1, 1, rfl, rfl, hp, rfl, ?_⟩
        have e3L : SqL K (upd H p (.lst ([V.ref c, .int i0, .int r0, .int sd0, .int n0].set 1 (.int (i0 + 1))))) p [.ref c, .int (i0 + 1), .int r0, .int sd0, .int n0] := SqL.of upd_same
        refine ⟨.ref p, rfl, p, _, 3, .int sd0, rfl, rfl, e3L, rfl, sd0, 46757, rfl, rfl, .inr ⟨by decide, by decide⟩, .int z, rfl, .inl ⟨z, rfl, z, 2147483323, rfl, rfl, (by show (0 : Int) < 2147483323; decide), _, _, rfl, rfl, _, 31, rfl, rfl, .inl ⟨_, rfl, _, 2147483549, rfl, rfl, (by show (0 : Int) < 2147483549; decide), .ref p, rfl, p, _, 3, 3, rfl, rfl, upd_same, rfl, ?_⟩⟩⟩
        generalize hg2 : (sd0 * 46757 + z % 2147483323 + 31) % 2147483549 = sd2
        have s2 : 0 ≤ sd2 := by rw [← hg2]; exact Int.emod_nonneg _ (by decide)
        have s3 : sd2 < 4294967296 := by rw [← hg2]; exact Int.lt_trans (Int.emod_lt_of_pos _ (by decide)) (by decide)
        dsimp only
        rw [hg2, upd_upd]
        refine ⟨.int z, rfl, 10, 18, rfl, rfl, ⟨by decide, by decide, by decide⟩, z, _, rfl, rfl, _, rfl, ite2 (fun h3 => ?_) (fun h3 => ?_)⟩
        · have hz : (10 : Int) ^ (18 : Int).toNat ≤ z := of_decide_eq_true h3
          refine ⟨.int z, rfl, .ref p, rfl, p, _, 2, 2, rfl, rfl, upd_same, rfl, ?_⟩
          rw [upd_upd]
          exact key _ (i0 + 1) z sd2 n0 (some (.int z)) ⟨fun b hb => upd_ne hb, upd_same, by omega, Int.le_trans (by decide) hz, s2, s3⟩
        · refine ⟨.ref p, rfl, p, _, 2, 2, rfl, rfl, upd_same, rfl, ?_⟩
          rw [upd_upd]
          exact key _ (i0 + 1) 0 sd2 n0 (some (.int z)) ⟨fun b hb => upd_ne hb, upd_same, by omega, by decide, s2, s3⟩
      · exact key H i0 r0 sd0 n0 none S0
    · refine iteF ?_
      exact key H i0 r0 sd0 n0 none S0
  · obtain ⟨m, rfl, _⟩ := h; rfl
theorem B__law_bare_2 (T : Tx P K mg base a d) : Bd K (d i__law_bare) ["_law_src", "_law_one_z"] 2 [] [.pos 0, .pos 1] :=
  bd_of T.F__law_bare (fun us ws => match us, ws with | [u0, u1], [] => [u0, u1] | _, _ => [])
    (fun _ _ _ _ _ _ us ws h1 h2 => match us, ws, h1, h2 with | [_, _], [], _, _ => rfl)
    (fun vs qs us ws h1 h2 r1 r2 => match vs, us, qs, ws, h1, h2, r1, r2 with | _, [_, _], _, [], _, _, .cons u0 (.cons u1 .nil), .nil => .cons u0 (.cons u1 .nil)) (fun s h v d e => by subst e; simp at h)
theorem B__law_draw_2 (T : Tx P K mg base a d) : Bd K (d i__law_draw) ["_law_src", "_law_many"] 2 [] [.pos 0, .pos 1] :=
  bd_of T.F__law_draw (fun us ws => match us, ws with | [u0, u1], [] => [u0, u1] | _, _ => [])
    (fun _ _ _ _ _ _ us ws h1 h2 => match us, ws, h1, h2 with | [_, _], [], _, _ => rfl)
    (fun vs qs us ws h1 h2 r1 r2 => match vs, us, qs, ws, h1, h2, r1, r2 with | _, [_, _], _, [], _, _, .cons u0 (.cons u1 .nil), .nil => .cons u0 (.cons u1 .nil)) (fun s h v d e => by subst e; simp at h)
theorem B__law_less_2 (T : Tx P K mg base a d) : Bd K (d i__law_less) ["_law_one_z", "_law_other_z"] 2 [] [.pos 0, .pos 1] :=
  bd_of T.F__law_less (fun us ws => match us, ws with | [u0, u1], [] => [u0, u1] | _, _ => [])
    (fun _ _ _ _ _ _ us ws h1 h2 => match us, ws, h1, h2 with | [_, _], [], _, _ => rfl)
    (fun vs qs us ws h1 h2 r1 r2 => match vs, us, qs, ws, h1, h2, r1, r2 with | _, [_, _], _, [], _, _, .cons u0 (.cons u1 .nil), .nil => .cons u0 (.cons u1 .nil)) (fun s h v d e => by subst e; simp at h)
theorem B__law_low_2 (T : Tx P K mg base a d) : Bd K (d i__law_low) ["_law_top", "_law_bottom"] 2 [] [.pos 0, .pos 1] :=
  bd_of T.F__law_low (fun us ws => match us, ws with | [u0, u1], [] => [u0, u1] | _, _ => [])
    (fun _ _ _ _ _ _ us ws h1 h2 => match us, ws, h1, h2 with | [_, _], [], _, _ => rfl)
    (fun vs qs us ws h1 h2 r1 r2 => match vs, us, qs, ws, h1, h2, r1, r2 with | _, [_, _], _, [], _, _, .cons u0 (.cons u1 .nil), .nil => .cons u0 (.cons u1 .nil)) (fun s h v d e => by subst e; simp at h)
theorem B__law_of_2 (T : Tx P K mg base a d) : Bd K (d i__law_of) ["_law_src", "_law_some"] 2 [] [.pos 0, .pos 1] :=
  bd_of T.F__law_of (fun us ws => match us, ws with | [u0, u1], [] => [u0, u1] | _, _ => [])
    (fun _ _ _ _ _ _ us ws h1 h2 => match us, ws, h1, h2 with | [_, _], [], _, _ => rfl)
    (fun vs qs us ws h1 h2 r1 r2 => match vs, us, qs, ws, h1, h2, r1, r2 with | _, [_, _], _, [], _, _, .cons u0 (.cons u1 .nil), .nil => .cons u0 (.cons u1 .nil)) (fun s h v d e => by subst e; simp at h)
theorem B__law_plus_2 (T : Tx P K mg base a d) : Bd K (d i__law_plus) ["_law_one_z", "_law_other_z"] 2 [] [.pos 0, .pos 1] :=
  bd_of T.F__law_plus (fun us ws => match us, ws with | [u0, u1], [] => [u0, u1] | _, _ => [])
    (fun _ _ _ _ _ _ us ws h1 h2 => match us, ws, h1, h2 with | [_, _], [], _, _ => rfl)
    (fun vs qs us ws h1 h2 r1 r2 => match vs, us, qs, ws, h1, h2, r1, r2 with | _, [_, _], _, [], _, _, .cons u0 (.cons u1 .nil), .nil => .cons u0 (.cons u1 .nil)) (fun s h v d e => by subst e; simp at h)
theorem B__law_same_2 (T : Tx P K mg base a d) : Bd K (d i__law_same) ["_law_found", "_law_due"] 2 [] [.pos 0, .pos 1] :=
  bd_of T.F__law_same (fun us ws => match us, ws with | [u0, u1], [] => [u0, u1] | _, _ => [])
    (fun _ _ _ _ _ _ us ws h1 h2 => match us, ws, h1, h2 with | [_, _], [], _, _ => rfl)
    (fun vs qs us ws h1 h2 r1 r2 => match vs, us, qs, ws, h1, h2, r1, r2 with | _, [_, _], _, [], _, _, .cons u0 (.cons u1 .nil), .nil => .cons u0 (.cons u1 .nil)) (fun s h v d e => by subst e; simp at h)
theorem B__law_sum_and_product_1 (T : Tx P K mg base a d) : Bd K (d i__law_sum_and_product) ["_law_some"] 1 [] [.pos 0] :=
  bd_of T.F__law_sum_and_product (fun us ws => match us, ws with | [u0], [] => [u0] | _, _ => [])
    (fun _ _ _ _ _ _ us ws h1 h2 => match us, ws, h1, h2 with | [_], [], _, _ => rfl)
    (fun vs qs us ws h1 h2 r1 r2 => match vs, us, qs, ws, h1, h2, r1, r2 with | _, [_], _, [], _, _, .cons u0 .nil, .nil => .cons u0 .nil) (fun s h v d e => by subst e; simp at h)
theorem B__law_times_2 (T : Tx P K mg base a d) : Bd K (d i__law_times) ["_law_one_z", "_law_other_z"] 2 [] [.pos 0, .pos 1] :=
  bd_of T.F__law_times (fun us ws => match us, ws with | [u0, u1], [] => [u0, u1] | _, _ => [])
    (fun _ _ _ _ _ _ us ws h1 h2 => match us, ws, h1, h2 with | [_, _], [], _, _ => rfl)
    (fun vs qs us ws h1 h2 r1 r2 => match vs, us, qs, ws, h1, h2, r1, r2 with | _, [_, _], _, [], _, _, .cons u0 (.cons u1 .nil), .nil => .cons u0 (.cons u1 .nil)) (fun s h v d e => by subst e; simp at h)
theorem B__law_total_1 (T : Tx P K mg base a d) : Bd K (d i__law_total) ["_law_pairs"] 1 [] [.pos 0] :=
  bd_of T.F__law_total (fun us ws => match us, ws with | [u0], [] => [u0] | _, _ => [])
    (fun _ _ _ _ _ _ us ws h1 h2 => match us, ws, h1, h2 with | [_], [], _, _ => rfl)
    (fun vs qs us ws h1 h2 r1 r2 => match vs, us, qs, ws, h1, h2, r1, r2 with | _, [_], _, [], _, _, .cons u0 .nil, .nil => .cons u0 .nil) (fun s h v d e => by subst e; simp at h)
theorem B__law_wide_1 (T : Tx P K mg base a d) : Bd K (d i__law_wide) ["_law_src"] 1 [] [.pos 0] :=
  bd_of T.F__law_wide (fun us ws => match us, ws with | [u0], [] => [u0] | _, _ => [])
    (fun _ _ _ _ _ _ us ws h1 h2 => match us, ws, h1, h2 with | [_], [], _, _ => rfl)
    (fun vs qs us ws h1 h2 r1 r2 => match vs, us, qs, ws, h1, h2, r1, r2 with | _, [_], _, [], _, _, .cons u0 .nil, .nil => .cons u0 .nil) (fun s h v d e => by subst e; simp at h)
theorem B_below_2 (T : Tx P K mg base a d) : Bd K (d i_below) ["one", "other"] 2 [] [.pos 0, .pos 1] :=
  bd_of T.F_below (fun us ws => match us, ws with | [u0, u1], [] => [u0, u1] | _, _ => [])
    (fun _ _ _ _ _ _ us ws h1 h2 => match us, ws, h1, h2 with | [_, _], [], _, _ => rfl)
    (fun vs qs us ws h1 h2 r1 r2 => match vs, us, qs, ws, h1, h2, r1, r2 with | _, [_, _], _, [], _, _, .cons u0 (.cons u1 .nil), .nil => .cons u0 (.cons u1 .nil)) (fun s h v d e => by subst e; simp at h)
theorem B_is_less_0_other_one (T : Tx P K mg base a d) : Bd K (d i_is_less) ["one", "other"] 0 ["other", "one"] [.kw 1, .kw 0] :=
  bd_of T.F_is_less (fun us ws => match us, ws with | [], [w0, w1] => [w1, w0] | _, _ => [])
    (fun _ _ _ _ _ _ us ws h1 h2 => match us, ws, h1, h2 with | [], [_, _], _, _ => rfl)
    (fun vs qs us ws h1 h2 r1 r2 => match vs, us, qs, ws, h1, h2, r1, r2 with | _, [], _, [_, _], _, _, .nil, .cons w0 (.cons w1 .nil) => .cons w1 (.cons w0 .nil)) (fun s h v d e => by subst e; simp at h)
theorem B_is_less_2 (T : Tx P K mg base a d) : Bd K (d i_is_less) ["one", "other"] 2 [] [.pos 0, .pos 1] :=
  bd_of T.F_is_less (fun us ws => match us, ws with | [u0, u1], [] => [u0, u1] | _, _ => [])
    (fun _ _ _ _ _ _ us ws h1 h2 => match us, ws, h1, h2 with | [_, _], [], _, _ => rfl)
    (fun vs qs us ws h1 h2 r1 r2 => match vs, us, qs, ws, h1, h2, r1, r2 with | _, [_, _], _, [], _, _, .cons u0 (.cons u1 .nil), .nil => .cons u0 (.cons u1 .nil)) (fun s h v d e => by subst e; simp at h)
theorem B_is_ratio_1 (T : Tx P K mg base a d) : Bd K (d i_is_ratio) ["value"] 1 [] [.pos 0] :=
  bd_of T.F_is_ratio (fun us ws => match us, ws with | [u0], [] => [u0] | _, _ => [])
    (fun _ _ _ _ _ _ us ws h1 h2 => match us, ws, h1, h2 with | [_], [], _, _ => rfl)
    (fun vs qs us ws h1 h2 r1 r2 => match vs, us, qs, ws, h1, h2, r1, r2 with | _, [_], _, [], _, _, .cons u0 .nil, .nil => .cons u0 .nil) (fun s h v d e => by subst e; simp at h)
theorem B_is_whole_1 (T : Tx P K mg base a d) : Bd K (d i_is_whole) ["value"] 1 [] [.pos 0] :=
  bd_of T.F_is_whole (fun us ws => match us, ws with | [u0], [] => [u0] | _, _ => [])
    (fun _ _ _ _ _ _ us ws h1 h2 => match us, ws, h1, h2 with | [_], [], _, _ => rfl)
    (fun vs qs us ws h1 h2 r1 r2 => match vs, us, qs, ws, h1, h2, r1, r2 with | _, [_], _, [], _, _, .cons u0 .nil, .nil => .cons u0 .nil) (fun s h v d e => by subst e; simp at h)
theorem B_lowest_2 (T : Tx P K mg base a d) : Bd K (d i_lowest) ["top", "bottom"] 2 [] [.pos 0, .pos 1] :=
  bd_of T.F_lowest (fun us ws => match us, ws with | [u0, u1], [] => [u0, u1] | _, _ => [])
    (fun _ _ _ _ _ _ us ws h1 h2 => match us, ws, h1, h2 with | [_, _], [], _, _ => rfl)
    (fun vs qs us ws h1 h2 r1 r2 => match vs, us, qs, ws, h1, h2, r1, r2 with | _, [_, _], _, [], _, _, .cons u0 (.cons u1 .nil), .nil => .cons u0 (.cons u1 .nil)) (fun s h v d e => by subst e; simp at h)
theorem B_plus_2 (T : Tx P K mg base a d) : Bd K (d i_plus) ["one", "other"] 2 [] [.pos 0, .pos 1] :=
  bd_of T.F_plus (fun us ws => match us, ws with | [u0, u1], [] => [u0, u1] | _, _ => [])
    (fun _ _ _ _ _ _ us ws h1 h2 => match us, ws, h1, h2 with | [_, _], [], _, _ => rfl)
    (fun vs qs us ws h1 h2 r1 r2 => match vs, us, qs, ws, h1, h2, r1, r2 with | _, [_, _], _, [], _, _, .cons u0 (.cons u1 .nil), .nil => .cons u0 (.cons u1 .nil)) (fun s h v d e => by subst e; simp at h)
theorem B_ratio_of_1 (T : Tx P K mg base a d) : Bd K (d i_ratio_of) ["value"] 1 [] [.pos 0] :=
  bd_of T.F_ratio_of (fun us ws => match us, ws with | [u0], [] => [u0] | _, _ => [])
    (fun _ _ _ _ _ _ us ws h1 h2 => match us, ws, h1, h2 with | [_], [], _, _ => rfl)
    (fun vs qs us ws h1 h2 r1 r2 => match vs, us, qs, ws, h1, h2, r1, r2 with | _, [_], _, [], _, _, .cons u0 .nil, .nil => .cons u0 .nil) (fun s h v d e => by subst e; simp at h)
theorem B_times_2 (T : Tx P K mg base a d) : Bd K (d i_times) ["one", "other"] 2 [] [.pos 0, .pos 1] :=
  bd_of T.F_times (fun us ws => match us, ws with | [u0, u1], [] => [u0, u1] | _, _ => [])
    (fun _ _ _ _ _ _ us ws h1 h2 => match us, ws, h1, h2 with | [_, _], [], _, _ => rfl)
    (fun vs qs us ws h1 h2 r1 r2 => match vs, us, qs, ws, h1, h2, r1, r2 with | _, [_, _], _, [], _, _, .cons u0 (.cons u1 .nil), .nil => .cons u0 (.cons u1 .nil)) (fun s h v d e => by subst e; simp at h)
/-! ### _law_of -/
abbrev n__law_of : List Str := ["_law_src", "_law_some"]
theorem sc__law_of : FnScope n__law_of ["_law_src", "_law_some"] (defScope s__law_of) := ⟨rfl, rfl, rfl, by decide +kernel, rfl, by decide +kernel, by decide +kernel⟩
theorem ok__law_of (T : Tx P K mg base a d) : FnG P w K mg base 2 (a i__law_of) (d i__law_of) ["_law_src", "_law_some"] spOf := by
  have G__law_draw : FnG P w K mg base 1 (a i__law_draw) (d i__law_draw) ["_law_src", "_law_many"] spDraw := ok__law_draw T
  refine fnG_of T.F__law_of sc__law_of (fun args Q E h => ?_) (fun args Q E h => ?_) (fun cdv A outer s H E hr hg => (ds_one (ds_ret (de_ix ix_seq sem_ix (de_see (pv 1)) (de_call G__law_draw (hr.mono (by decide)) hg (tkOf rfl rfl rfl rfl) (B__law_draw_2 T) (by rfl) T.m__law_draw T.F__law_draw.kp (da_cons (de_var (pv 0)) (da_cons (de_callB call_len sem_len (by rfl) T.n_len PySem.boot_len (da_cons (de_see (pv 1)) da_nil)) da_nil))) (fun _ _ => rfl))))) (fun args Q E h => ?_)
  · obtain ⟨x, rfl, _⟩ := h; rfl
  · obtain ⟨x, rfl, hx, _⟩ := h
    intro i o z
    match i with
    | 0 => cases z
    | 1 => exact hx o (Option.some.inj z)
    | i + 2 => simp at z
  · obtain ⟨x, rfl, hx, h⟩ := h
    cases x with
    | src => exact h.elim
    | own o =>
      cases o with
      | lst ds =>
        obtain ⟨h1, h2, h3⟩ := h
        refine l_lenL rfl ?_
        refine ⟨rfl, rfl, _, rfl, by omega, small_len h2, fun n h0 h4 => ?_⟩
        obtain ⟨y, e1, e2⟩ := at_mem h0 h4
        exact l_ixL rfl e1 (h3 y e2)
      | ins _ _ _ => exact h.elim
      | dk _ => exact h.elim
      | dt _ => exact h.elim
    | bor o =>
      cases o with
      | lst ds =>
        obtain ⟨h1, h2, h3⟩ := h
        refine l_lenL rfl ?_
        refine ⟨rfl, rfl, _, rfl, by omega, small_len h2, fun n h0 h4 => ?_⟩
        obtain ⟨y, e1, e2⟩ := at_mem h0 h4
        exact l_ixL rfl e1 (h3 y e2)
      | ins _ _ _ => exact h.elim
      | dk _ => exact h.elim
      | dt _ => exact h.elim
    | see o => exact absurd rfl (hx o)
    | d y =>
      cases y with
      | str z =>
        obtain ⟨h1, h2, h3⟩ := h
        refine l_lenS h2 ?_
        refine ⟨rfl, rfl, _, rfl, by omega, small_len h2, fun n h0 h4 => ?_⟩
        obtain ⟨y, e1, e2⟩ := at_mem (xs := z.cps.toList) h0 (by simpa [Str.length] using h4)
        exact l_ixS h2 e1 (h3 y e2)
      | tup ds =>
        obtain ⟨h1, h2, h3⟩ := h
        refine l_lenT ?_
        refine ⟨rfl, rfl, _, rfl, by omega, small_len h2, fun n h0 h4 => ?_⟩
        obtain ⟨y, e1, e2⟩ := at_mem h0 h4
        exact l_ixT e1 (h3 y e2)
      | lst ds =>
        obtain ⟨h1, h2, h3⟩ := h
        refine l_lenL rfl ?_
        refine ⟨rfl, rfl, _, rfl, by omega, small_len h2, fun n h0 h4 => ?_⟩
        obtain ⟨y, e1, e2⟩ := at_mem h0 h4
        exact l_ixL rfl e1 (h3 y e2)
      | non => exact h.elim
      | bl _ => exact h.elim
      | int _ => exact h.elim
      | ins _ _ => exact h.elim
      | dk _ => exact h.elim
      | dt _ => exact h.elim
      | any => exact h.elim
      | raw _ => exact h.elim
/-! ### _law_same -/
abbrev n__law_same : List Str := ["_law_found", "_law_due"]
theorem sc__law_same : FnScope n__law_same ["_law_found", "_law_due"] (defScope s__law_same) := ⟨rfl, rfl, rfl, by decide +kernel, rfl, by decide +kernel, by decide +kernel⟩
theorem ok__law_same (T : Tx P K mg base a d) : FnG P w K mg base 1 (a i__law_same) (d i__law_same) ["_law_found", "_law_due"] spSame := by
  refine fnG_of T.F__law_same sc__law_same (fun args Q E h => ?_) (fun args Q E h => ?_) (fun cdv A outer s H E hr hg => (ds_one (ds_ret (de_cmp (op_eqAll hr.units) sem_eq (de_callB (call_reprD hg (room65 hr)) sem_repr (by rfl) T.n_repr (by decide +kernel) (da_cons (de_see (pv 0)) da_nil)) (de_callB (call_reprD hg (room65 hr)) sem_repr (by rfl) T.n_repr (by decide +kernel) (da_cons (de_see (pv 1)) da_nil)) (nomark _))))) (fun args Q E h => ?_)
  · obtain ⟨_, _, _, _, rfl, _⟩ := h; rfl
  · obtain ⟨_, _, _, _, rfl, _⟩ := h
    intro i o z
    match i with
    | 0 => cases z
    | 1 => cases z
    | i + 2 => simp at z
  · obtain ⟨d1, d2, p, q, rfl, s1, s2, h⟩ := h
    show reprR [.d d1] (fun x => reprR [.d d2] (fun y => eqR false x y (retQ Q)))
    exact repr_ok s1 (repr_ok s2 (l_eqS h))
/-! ### _law_fields -/
abbrev n__law_fields : List Str := ["_law_e"]
theorem sc__law_fields : FnScope n__law_fields ["_law_e"] (defScope s__law_fields) := ⟨rfl, rfl, rfl, by decide +kernel, rfl, by decide +kernel, by decide +kernel⟩
theorem ok__law_fields (T : Tx P K mg base a d) : FnP P w K mg base 1 (a i__law_fields) (d i__law_fields) ["_law_e"] (spFields K) := by
  refine fnP_of T.F__law_fields sc__law_fields (fun p vs H Q E h => ?_) (fun cdv A outer s H vs Q E p h => ?_)
  · obtain ⟨_, _, _, _, _, rfl, _⟩ := h; rfl
  · obtain ⟨C, dx, fs, c, xs, rfl, px, no, hd, lc, fo, hq⟩ := h
    have hp : p ∈ [p] := List.mem_singleton.mpr rfl
    refine ⟨_, (pss_cons (ps_if (pt_cmpR op_in_seq (pe_xfP hp (pv 0)) (pe_tup (pa_cons pe_str (pa_cons pe_str (pa_cons pe_str (pa_cons pe_str (pa_cons pe_str (pa_cons pe_str (pa_cons pe_str (pa_cons pe_str pa_nil))))))))) (by rfl)) (pss_one (ps_ret (pe_tup (pa_cons (pe_xfP hp (pv 0)) pa_nil)))) pss_nil)
      (pss_cons (ps_if (pt_cmpR op_in_seq (pe_xfP hp (pv 0)) (pe_tup (pa_cons pe_str (pa_cons pe_str (pa_cons pe_str pa_nil)))) (by rfl)) (pss_one (ps_ret (pe_tup (pa_cons (pe_xfP hp (pv 0)) pa_nil)))) pss_nil)
      (pss_cons (ps_if (pt_cmpR op_in_seq (pe_xfP hp (pv 0)) (pe_tup (pa_cons pe_str (pa_cons pe_str pa_nil))) (by rfl)) (pss_one (ps_ret (pe_tup (pa_cons (pe_xfP hp (pv 0)) pa_nil)))) pss_nil)
      (pss_cons (ps_if (pt_cmpR op_in_seq (pe_xfP hp (pv 0)) (pe_tup (pa_cons pe_str (pa_cons pe_str pa_nil))) (by rfl)) (pss_one (ps_ret (pe_tup (pa_cons (pe_xfP hp (pv 0)) pa_nil)))) pss_nil)
      (pss_cons (ps_if (pt_cmpR op_in_seq (pe_xfP hp (pv 0)) (pe_tup (pa_cons pe_str (pa_cons pe_str pa_nil))) (by rfl)) (pss_one (ps_ret (pe_tup (pa_cons (pe_xfP hp (pv 0)) pa_nil)))) pss_nil)
      (pss_cons (ps_if (pt_cmpR op_eq (pe_xfP hp (pv 0)) pe_str (nomark _)) (pss_one (ps_ret (pe_tup (pa_cons (pe_xfP hp (pv 0)) pa_nil)))) pss_nil)
      (pss_cons (ps_if (pt_cmpR op_eq (pe_xfP hp (pv 0)) pe_str (nomark _)) (pss_one (ps_ret (pe_tup (pa_cons (pe_xfP hp (pv 0)) (pa_cons (pe_xfP hp (pv 0)) (pa_cons (pe_xfP hp (pv 0)) pa_nil)))))) pss_nil)
      (pss_cons (ps_if (pt_cmpR op_eq (pe_xfP hp (pv 0)) pe_str (nomark _)) (pss_one (ps_ret (pe_tup (pa_cons (pe_xfP hp (pv 0)) pa_nil)))) pss_nil)
      (pss_cons (ps_if (pt_cmpR op_eq (pe_xfP hp (pv 0)) pe_str (nomark _)) (pss_one (ps_ret (pe_tup (pa_cons (pe_xfP hp (pv 0)) pa_nil)))) pss_nil)
      (pss_one (ps_ret (pe_ifExp (pt_cmpR op_eq (pe_xfP hp (pv 0)) pe_str (nomark _)) (pe_tup (pa_cons (pe_xfP hp (pv 0)) (pa_cons (pe_xfP hp (pv 0)) pa_nil))) (pe_tup pa_nil))))))))))))), ?_⟩
    have nc := no "code" (by decide)
    have fin : ∀ {H2 : Hp} (l : Addr), Ex H H2 → H2 l = none → Q (.ref l) (upd H2 l (.tup xs)) := fun l e n => hq _ l (e.trans (Ex.new n)) (e.free n) upd_same
    have one : ∀ {H2 : Hp} (f : Str), Ex H H2 → f ∈ errFields → (fs.lookup f).map (fun v => [v]) = some xs → tTup (tCons (tXfP K p f (tVar 0)) tNil) [some (.ref p.1)] H2 Q := fun {H2} f e hf z => by
      cases q : fs.lookup f with
      | none => rw [q] at z; cases z
      | some v =>
        rw [q] at z; cases z
        exact t_fld px (no f hf) (e _ _ hd) rfl q ⟨by show 1 ≤ sizeLine; decide, fun l n => fin l e n⟩
    unfold DL.fieldsOf at fo
    dsimp only at fo
    have e0 : Ex H H := Ex.refl H
    refine t_in ["InvalidRatio", "InvalidNumber", "InvalidName", "InvalidLayer", "InvalidPlace", "InvalidPoint", "InvalidForm", "InvalidLimit"] px nc (e0 _ _ hd) rfl lc (by decide) (fun l0 n0 => ite2 (fun z => ?_) (fun z => ?_))
    · rw [if_pos (of_decide_eq_true z)] at fo
      exact one "given" (e0.trans (Ex.new n0)) (by decide) fo
    rw [if_neg (fun y => z (decide_eq_true y))] at fo
    have e1 := e0.trans (Ex.new (o := .tup ((["InvalidRatio", "InvalidNumber", "InvalidName", "InvalidLayer", "InvalidPlace", "InvalidPoint", "InvalidForm", "InvalidLimit"] : List Str).map V.str)) n0)
    refine t_in ["InvalidRow", "InvalidFact", "InvalidCommand"] px nc (e1 _ _ hd) rfl lc (by decide) (fun l1 n1 => ite2 (fun z => ?_) (fun z => ?_))
    · rw [if_pos (of_decide_eq_true z)] at fo
      exact one "at" (e1.trans (Ex.new n1)) (by decide) fo
    rw [if_neg (fun y => z (decide_eq_true y))] at fo
    have e2 := e1.trans (Ex.new (o := .tup ((["InvalidRow", "InvalidFact", "InvalidCommand"] : List Str).map V.str)) n1)
    refine t_in ["InvalidStep", "UnlikeEnds"] px nc (e2 _ _ hd) rfl lc (by decide) (fun l2 n2 => ite2 (fun z => ?_) (fun z => ?_))
    · rw [if_pos (of_decide_eq_true z)] at fo
      exact one "path" (e2.trans (Ex.new n2)) (by decide) fo
    rw [if_neg (fun y => z (decide_eq_true y))] at fo
    have e3 := e2.trans (Ex.new (o := .tup ((["InvalidStep", "UnlikeEnds"] : List Str).map V.str)) n2)
    refine t_in ["DuplicateName", "UnknownName"] px nc (e3 _ _ hd) rfl lc (by decide) (fun l3 n3 => ite2 (fun z => ?_) (fun z => ?_))
    · rw [if_pos (of_decide_eq_true z)] at fo
      exact one "name" (e3.trans (Ex.new n3)) (by decide) fo
    rw [if_neg (fun y => z (decide_eq_true y))] at fo
    have e4 := e3.trans (Ex.new (o := .tup ((["DuplicateName", "UnknownName"] : List Str).map V.str)) n3)
    refine t_in ["InvalidText", "UnknownScript"] px nc (e4 _ _ hd) rfl lc (by decide) (fun l4 n4 => ite2 (fun z => ?_) (fun z => ?_))
    · rw [if_pos (of_decide_eq_true z)] at fo
      exact one "word" (e4.trans (Ex.new n4)) (by decide) fo
    rw [if_neg (fun y => z (decide_eq_true y))] at fo
    have e5 := e4.trans (Ex.new (o := .tup ((["InvalidText", "UnknownScript"] : List Str).map V.str)) n4)
    refine t_eq "InvalidTable" px nc (e5 _ _ hd) rfl lc (ite2 (fun z => ?_) (fun z => ?_))
    · rw [if_pos (of_decide_eq_true z)] at fo
      exact one "layer" e5 (by decide) fo
    rw [if_neg (fun y => z (decide_eq_true y))] at fo
    refine t_eq "InvalidWay" px nc (e5 _ _ hd) rfl lc (ite2 (fun z => ?_) (fun z => ?_))
    · rw [if_pos (of_decide_eq_true z)] at fo
      split at fo
      · rename_i v1 v2 v3 q1 q2 q3
        cases fo
        exact ⟨.ref p.1, rfl, rfl, C, dx, fs, v1, px, no _ (by decide), e5 _ _ hd, q1, .ref p.1, rfl, rfl, C, dx, fs, v2, px, no _ (by decide), e5 _ _ hd, q2, .ref p.1, rfl, rfl, C, dx, fs, v3, px, no _ (by decide), e5 _ _ hd, q3, by show 3 ≤ sizeLine; decide, fun l n => fin l e5 n⟩
      · cases fo
    rw [if_neg (fun y => z (decide_eq_true y))] at fo
    refine t_eq "Full" px nc (e5 _ _ hd) rfl lc (ite2 (fun z => ?_) (fun z => ?_))
    · rw [if_pos (of_decide_eq_true z)] at fo
      exact one "limit" e5 (by decide) fo
    rw [if_neg (fun y => z (decide_eq_true y))] at fo
    refine t_eq "InvalidPage" px nc (e5 _ _ hd) rfl lc (ite2 (fun z => ?_) (fun z => ?_))
    · rw [if_pos (of_decide_eq_true z)] at fo
      exact one "line" e5 (by decide) fo
    rw [if_neg (fun y => z (decide_eq_true y))] at fo
    refine t_eq "TooMany" px nc (e5 _ _ hd) rfl lc (ite2 (fun z => ?_) (fun z => ?_))
    · rw [if_pos (of_decide_eq_true z)] at fo
      split at fo
      · rename_i v1 v2 q1 q2
        cases fo
        exact ⟨.ref p.1, rfl, rfl, C, dx, fs, v1, px, no _ (by decide), e5 _ _ hd, q1, .ref p.1, rfl, rfl, C, dx, fs, v2, px, no _ (by decide), e5 _ _ hd, q2, by show 2 ≤ sizeLine; decide, fun l n => fin l e5 n⟩
      · cases fo
    · rw [if_neg (fun y => z (decide_eq_true y))] at fo
      cases fo
      exact ⟨by show 0 ≤ sizeLine; decide, fun l n => fin l e5 n⟩
theorem bi__law_fields (T : Tx P K mg base a d) : Binds K (d i__law_fields) ["_law_e"] [] := binds_of T.F__law_fields fun _ _ _ _ _ _ us hl => match us, hl with | [_], _ => rfl
/-! ### _law_ask -/
abbrev n__law_ask : List Str := ["_law_f", "_law_e"]
theorem sc__law_ask : FnScope n__law_ask ["_law_f"] (defScope s__law_ask) := ⟨rfl, rfl, rfl, by decide +kernel, rfl, by decide +kernel, by decide +kernel⟩
theorem bi__law_ask (T : Tx P K mg base a d) : Binds K (d i__law_ask) ["_law_f"] [] := binds_of T.F__law_ask fun _ _ _ _ _ _ us hl => match us, hl with | [_], _ => rfl
theorem ask_to (T : Tx P K mg base a d) {X : Cx} {q : Str} (h1 : X.prog = P) (h2 : X.w = w) (h3 : X.K = K) (h4 : X.mg = mg) (h5 : X.base = base) (hr : Room 3 X.A) : AskTo X n__law_ask "_law_ask" (defScope s__law_ask) (a i__law_ask) (defBody s__law_ask) "_law_f" q (TTask K (csA K)) := by
  subst h1 h2 h3 h4 h5
  intro cdg f c' s H Q tl act hc tt
  have hgl : ∀ x, (defScope s__law_ask).names.lookup x = some .globalImplicit → Gl (gotC X n__law_ask "_law_ask" (defScope s__law_ask) (a i__law_ask) cdg s H E0) x := fun x h => h
  refine ⟨_, pss_one (ps_try_as3 (X := gotC X n__law_ask "_law_ask" (defScope s__law_ask) (a i__law_ask) cdg s H E0) (i := 1) (Wout := fun _ _ _ _ => False) rfl rfl sc__law_ask.nd rfl rfl
      (c1 := .ref (He.ga X.K "MilesError")) (c2 := .ref (He.ga X.K "Missing")) (c3 := .ref (He.ga X.K "NothingLeft"))
      ⟨hgl _ (by decide +kernel), by decide, .inl T.m_MilesError⟩ ⟨hgl _ (by decide +kernel), by decide, .inl T.m_Missing⟩ ⟨hgl _ (by decide +kernel), by decide, .inl T.m_NothingLeft⟩ takes0
      (tb := fun W D σ H => ∃ Ech : XK, (∀ cls d (σ' : L2.St) H', σ'.length = 2 → Ech cls d H' → W cls d σ' H') ∧ σ[0]? = some (some (.ref f)) ∧ H c' = some (LamX.CodeO c' q) ∧ tl Ech H fun v H' => [V.str "", v].length ≤ sizeLine ∧ ∀ l, H' l = none → D.rt (.ref l) (upd H' l (.tup [.str "", v])))
      (ts := fun e cls d D σ H => σ[1]? = some (some (.ref e)) ∧ ∃ C dx fs c xs, cls = .ref C ∧ d = some dx ∧ ErrC X.K (csA X.K) C ∧ H dx = some (.xd fs) ∧ fs.lookup ("code" : Str) = some (V.str c) ∧ DL.fieldsOf c fs = some xs ∧ ∀ H2 l, Ex H H2 → H l = none → H2 l = some (.tup (.str c :: xs)) → D.rt (.ref l) H2)
      (fun W pn xe tk _ => ?_) (fun e oe cls dd pn zn hv => ?_)), ?_⟩
  · refine ⟨fun pins s' σ H' D I h' => ?_⟩
    obtain ⟨Ech, hW, g1, g2, g3⟩ := h'
    exact (pss_one (ps_ret (pe_tup (pa_cons pe_str (pa_cons (act W pn xe Ech _ _ tk hW) pa_nil))))).run pins s' σ H' D I ⟨g1, g2, g3⟩
  · obtain ⟨vs, hvs⟩ := hv
    have hot : L2H.Hot1 ((gotC X n__law_ask "_law_ask" (defScope s__law_ask) (a i__law_ask) cdg s H E0).suite e ((e, oe) :: pn)).A (e, oe) := ⟨rfl, vs, hvs, zn.2.2 vs hvs⟩
    have hpn : (e, oe) ∈ ((gotC X n__law_ask "_law_ask" (defScope s__law_ask) (a i__law_ask) cdg s H E0).suite e ((e, oe) :: pn)).pn := List.mem_cons_self ..
    have rh : L2H.RoomH 1 ((gotC X n__law_ask "_law_ask" (defScope s__law_ask) (a i__law_ask) cdg s H E0).suite e ((e, oe) :: pn)).A := by
      have r := L2H.roomH_of (k := 1) (A := X.A.deeper (envOfC "_law_ask" (defScope s__law_ask) s.heap.objs.size (a i__law_ask) cdg)) ((hr.mono (by decide : 2 ≤ 3)).deeper _)
      exact ⟨r.dp, r.un⟩
    refine ⟨fun pins s' σ H' D I h' => ?_⟩
    obtain ⟨g1, C, dx, fs, c, xs, rfl, rfl, ec, g2, g3, g4, g5⟩ := h'
    refine (pss_one (ps_ret (pe_op op_catA (pe_tup (pa_cons (pe_xfP hpn (pv 1)) pa_nil)) (pe_callP (p := (e, oe)) (ok__law_fields T) rh hot hpn (by rfl) T.m__law_fields T.F__law_fields.kp (bi__law_fields T) (pa_cons (pv 1) pa_nil))))).run pins s' σ H' D I ?_
    have px : PinX X.K (e, oe) C dx := ⟨zn, ⟨vs, hvs⟩, ec.x⟩
    refine ⟨.ref e, g1, rfl, C, dx, fs, .str c, px, ec.no _ (by decide), g2, g3, ?_⟩
    refine ⟨by show 1 ≤ sizeLine; decide, fun l1 n1 => ?_⟩
    refine ⟨.ref e, g1, C, dx, fs, c, xs, rfl, px, ec.no, by rw [upd_ne (ne_of_none g2 n1)]; exact g2, g3, g4, fun H2 l e2 n2 t2 => ?_⟩
    have t1 : H2 l1 = some (.tup [.str c]) := e2 _ _ upd_same
    have e12 : Ex H' H2 := (Ex.new n1).trans e2
    refine ⟨l1, l, [.str c], xs, rfl, rfl, SqT.of t1, SqT.of t2, ?_, (fun z => by cases z), fun _ z => ?_, fun _ _ p np => ?_⟩
    · have := fields_len g4
      rw [sizeLine_eq]; simp; omega
    · subst z
      exact g5 H2 l1 e12 n1 t1
    · exact g5 _ p (e12.trans (Ex.new np)) (e12.free np) upd_same
  · refine ⟨_, fun cls d σ' H' hl h => ?_, rfl, hc, tt⟩
    obtain ⟨C, dx, fs, c, xs, rfl, rfl, ec, g2, g3, g4, g5⟩ := h
    refine ⟨true, ec.is, fun _ e ne => ?_, fun z => by cases z⟩
    exact ⟨List.getElem?_set_self (by omega), C, dx, fs, c, xs, rfl, rfl, ec, g2, g3, g4, g5⟩
/-- _law_ask(lambda: ..) in the law -/
theorem de_lask (T : Tx P K mg base a d) {cc : Addr} {cdv : Value} {A : Around} {outer : List Env} {s : Shared} {H : Hp} {E : XK} {W : WX} {xs : List Str} {params : Arguments} {body : Expr} {scope : Scope} {te : TD} {k : Nat} {p lpos pos : Pos} (hmem : (cc, He.tabOf K cc, (("law" : Str) ++ ".<locals>." ++ "<lambda>")) ∈ lamFns K) (hcode : cdv = .ref cc)
    (hr : Room (k + 3) (A.deeper (envOfC "law" (defScope s_law) s.heap.objs.size (a i_law) cdv))) (hgd : A.guards = some []) (hp : LamPar params xs) (L : LamN ["_law_script", "_law_src", "_law_turn", "_law_pairs", "_law_product", "_law_pair", "_law_one_z", "_law_other_z", "_law_odd", "_law_bad", "_law_asks", "_law_k"] (defScope s_law) scope xs)
    (hbody : ∀ (A' : Around) (outer' : List Env) (s' : Shared) (H' : Hp) (E' : XK) (f c' : Addr), Room k (A'.deeper (LamX.lamEnv (cxOf (L2N.CX P w) P w K mg base ["_law_script", "_law_src", "_law_turn", "_law_pairs", "_law_product", "_law_pair", "_law_one_z", "_law_other_z", "_law_odd", "_law_bad", "_law_asks", "_law_k"] "law" (defScope s_law) (a i_law) cdv A outer s H E) scope s'.heap.objs.size f c')) → A'.guards = some [] → DE (lamC (cxOf (L2N.CX P w) P w K mg base ["_law_script", "_law_src", "_law_turn", "_law_pairs", "_law_product", "_law_pair", "_law_one_z", "_law_other_z", "_law_odd", "_law_bad", "_law_asks", "_law_k"] "law" (defScope s_law) (a i_law) cdv A outer s H E) A' outer' s' H' E' scope f c') (fun cls d _ H' => E' cls d H') body te) :
    DE (cxOf (L2N.CX P w) P w K mg base ["_law_script", "_law_src", "_law_turn", "_law_pairs", "_law_product", "_law_pair", "_law_one_z", "_law_other_z", "_law_odd", "_law_bad", "_law_asks", "_law_k"] "law" (defScope s_law) (a i_law) cdv A outer s H E) W (.Call (.Name "_law_ask" p) [.Lambda params body scope lpos] [] pos) (dAsk K (csA K) te) :=
  de_ask (X := cxOf (L2N.CX P w) P w K mg base ["_law_script", "_law_src", "_law_turn", "_law_pairs", "_law_product", "_law_pair", "_law_one_z", "_law_other_z", "_law_odd", "_law_bad", "_law_asks", "_law_k"] "law" (defScope s_law) (a i_law) cdv A outer s H E) (k := k) (Ng := n__law_ask) (by rfl) T.m__law_ask T.F__law_ask sc__law_ask (bi__law_ask T) rfl (.inl rfl) (ask_to T rfl rfl rfl rfl rfl (hr.mono (by omega))) hmem (T.tb _ hmem) hcode hp L (hr.mono (by omega)) hgd hbody

theorem xa_InvalidRatio (T : Tx P K mg base a d) {Q : DV → DSt → Prop} {s1 : DSt} {given : D} (h : Q (.d (.tup [.str "InvalidRatio", given])) s1) : ∃ C c xs, Value.ref (He.ga K "InvalidRatio") = .ref C ∧ ErrC K (csA K) C ∧ (xd_InvalidRatio given).lookup ("code" : Str) = some (D.str c) ∧ DL.fieldsOf c (xd_InvalidRatio given) = some xs ∧ Q (.d (.tup (.str c :: xs))) s1 := ⟨_, _, _, rfl, T.xe_InvalidRatio, rfl, rfl, h⟩
end
end K03

set_option Elab.async false
set_option linter.all false
set_option maxRecDepth 100000
set_option maxHeartbeats 4000000
namespace K03
open PySem PySem.Spec PyProof.Rows L2 DL
section
variable {P : Program} {w : World} {K : PySem.W.Frag} {mg : Str → Option Value} {base : Heap} {a : Nat → Addr} {d : Nat → FuncData}
def df0 : He.DefD := ⟨("is_whole", none), "is_whole", "is_whole", defArgs s_is_whole, defBody s_is_whole, defScope s_is_whole, [], []⟩
def df1 : He.DefD := ⟨("is_ratio", none), "is_ratio", "is_ratio", defArgs s_is_ratio, defBody s_is_ratio, defScope s_is_ratio, [], []⟩
def df2 : He.DefD := ⟨("lowest", none), "lowest", "lowest", defArgs s_lowest, defBody s_lowest, defScope s_lowest, [], []⟩
def df3 : He.DefD := ⟨("ratio_of", none), "ratio_of", "ratio_of", defArgs s_ratio_of, defBody s_ratio_of, defScope s_ratio_of, [], []⟩
def df4 : He.DefD := ⟨("plus", none), "plus", "plus", defArgs s_plus, defBody s_plus, defScope s_plus, [], []⟩
def df5 : He.DefD := ⟨("times", none), "times", "times", defArgs s_times, defBody s_times, defScope s_times, [], []⟩
def df6 : He.DefD := ⟨("below", none), "below", "below", defArgs s_below, defBody s_below, defScope s_below, [], []⟩
def df7 : He.DefD := ⟨("added", none), "added", "added", defArgs s_added, defBody s_added, defScope s_added, [], []⟩
def df8 : He.DefD := ⟨("multiplied", none), "multiplied", "multiplied", defArgs s_multiplied, defBody s_multiplied, defScope s_multiplied, [], []⟩
def df9 : He.DefD := ⟨("is_less", none), "is_less", "is_less", defArgs s_is_less, defBody s_is_less, defScope s_is_less, [], []⟩
def df10 : He.DefD := ⟨("_law_source", none), "_law_source", "_law_source", defArgs s__law_source, defBody s__law_source, defScope s__law_source, [], []⟩
def df11 : He.DefD := ⟨("_law_draw", none), "_law_draw", "_law_draw", defArgs s__law_draw, defBody s__law_draw, defScope s__law_draw, [], []⟩
def df12 : He.DefD := ⟨("_law_of", none), "_law_of", "_law_of", defArgs s__law_of, defBody s__law_of, defScope s__law_of, [], []⟩
def df13 : He.DefD := ⟨("_law_same", none), "_law_same", "_law_same", defArgs s__law_same, defBody s__law_same, defScope s__law_same, [], []⟩
def df14 : He.DefD := ⟨("_law_fields", none), "_law_fields", "_law_fields", defArgs s__law_fields, defBody s__law_fields, defScope s__law_fields, [], []⟩
def df15 : He.DefD := ⟨("_law_ask", none), "_law_ask", "_law_ask", defArgs s__law_ask, defBody s__law_ask, defScope s__law_ask, [], []⟩
def df16 : He.DefD := ⟨("_law_low", none), "_law_low", "_law_low", defArgs s__law_low, defBody s__law_low, defScope s__law_low, [], []⟩
def df17 : He.DefD := ⟨("_law_plus", none), "_law_plus", "_law_plus", defArgs s__law_plus, defBody s__law_plus, defScope s__law_plus, [], []⟩
def df18 : He.DefD := ⟨("_law_times", none), "_law_times", "_law_times", defArgs s__law_times, defBody s__law_times, defScope s__law_times, [], []⟩
def df19 : He.DefD := ⟨("_law_less", none), "_law_less", "_law_less", defArgs s__law_less, defBody s__law_less, defScope s__law_less, [], []⟩
def df20 : He.DefD := ⟨("_law_total", none), "_law_total", "_law_total", defArgs s__law_total, defBody s__law_total, defScope s__law_total, [], []⟩
def df21 : He.DefD := ⟨("_law_wide", none), "_law_wide", "_law_wide", defArgs s__law_wide, defBody s__law_wide, defScope s__law_wide, [], []⟩
def df22 : He.DefD := ⟨("_law_bare", none), "_law_bare", "_law_bare", defArgs s__law_bare, defBody s__law_bare, defScope s__law_bare, [], []⟩
def df23 : He.DefD := ⟨("_law_sum_and_product", none), "_law_sum_and_product", "_law_sum_and_product", defArgs s__law_sum_and_product, defBody s__law_sum_and_product, defScope s__law_sum_and_product, [], []⟩
def df24 : He.DefD := ⟨("law", none), "law", "law", defArgs s_law, defBody s_law, defScope s_law, [], []⟩
def fnL : List He.DefD := [df0, df1, df2, df3, df4, df5, df6, df7, df8, df9, df10, df11, df12, df13, df14, df15, df16, df17, df18, df19, df20, df21, df22, df23, df24]
def faL : List He.Fa := ([.glo "is_whole", .glo "is_ratio", .glo "lowest", .glo "ratio_of", .glo "plus", .glo "times", .glo "below", .glo "added", .glo "multiplied", .glo "is_less", .glo "_law_source", .glo "_law_draw", .glo "_law_of", .glo "_law_same", .glo "_law_fields", .glo "_law_ask", .glo "_law_low", .glo "_law_plus", .glo "_law_times", .glo "_law_less", .glo "_law_total", .glo "_law_wide", .glo "_law_bare", .glo "_law_sum_and_product", .glo "law", .glo "InvalidRatio", .glo "MilesError", .glo "Missing", .glo "NothingLeft", .free "abs"] : List He.Fa) ++ ([.free "bool", .free "int", .free "isinstance", .free "len", .free "list", .free "range", .free "repr", .free "super", .free "tuple"] : List He.Fa)
def xs_InvalidRatio : XSpec := ⟨"InvalidRatio", 0, ["code", "given"], defArgs sx_InvalidRatio, defBody sx_InvalidRatio, defScope sx_InvalidRatio⟩
def lyL : LZ := { cs := [("ZERO", .tup [.int 0, .int 1]), ("ONE", .tup [.int 1, .int 1])], bs := [("gcd", "math.gcd")], xs := [], file := PySem.Challenge.rw_missingmiles_k03_sums_and_products_of_ra.prog.main.file, ask := true, ex := [xs_InvalidRatio], ci := [], pr := [] }
abbrev RR : PySem.W.OpenRow := PySem.W.OpenLaw.row PySem.Challenge.rw_missingmiles_k03_sums_and_products_of_ra
abbrev hk : PySem.W.Hook := hookZ 4 lyL faL fnL
def ob (s : PySem.W.SharedT) : AlZ := obsZG 4 lyL faL fnL (HandSHeadRun.getT s)
theorem ob_eq (s : PySem.W.SharedT) : ob s = hk.obs s.abs := obsZG_eq (HandSHeadRun.getT_eq s)
def names : List PySem.Str := (["MilesError", "Missing", "InvalidRatio", "NothingLeft", "ZERO", "ONE", "is_whole", "is_ratio", "lowest", "ratio_of", "plus", "times", "below", "added", "multiplied", "is_less", "_law_source", "_law_draw", "_law_of", "_law_same", "_law_fields", "_law_ask", "_law_low", "_law_plus", "_law_times", "_law_less", "_law_total", "_law_wide", "_law_bare", "_law_sum_and_product"] : List PySem.Str)
abbrev qv : Program := PySem.W.view RR.prog [0, 34]
theorem runB (w : World) : (HandSHeadRun.wholeF (fun p => HandSHeadRun.stepQ (HandSHeadRun.denQ HandSHeadRun.tabQ) p w) HandSHeadRun.fenceQ 9000 RR.prog).map (fun x => HandSHeadRun.looksF RR.prog x.1.heap x.2.abs) = some true := by
  kernel_rfl
theorem runD (w : World) : (HandSHeadRun.wholeF (fun p => HandSHeadRun.stepQ (HandSHeadRun.denQ HandSHeadRun.tabQ) p w) HandSHeadRun.fenceQ 9000 RR.prog).map (fun x => HandSHeadRun.seenQ qv names (importedModules RR.prog.main.body) (fun s => PySem.W.xlAt qv [] s && PySem.W.recOk RR.toRowW.records s) x.2.abs) = some (PySem.W.openGood qv names) := by
  kernel_rfl
theorem runC1 (w : World) : (HandSHeadRun.wholeF (fun p => HandSHeadRun.stepQ (HandSHeadRun.denQ HandSHeadRun.tabQ) p w) HandSHeadRun.fenceQ 9000 RR.prog).map (fun x => (ob x.2).1) = some (hk.val w).1 := by
  kernel_rfl
theorem runC2 (w : World) : (HandSHeadRun.wholeF (fun p => HandSHeadRun.stepQ (HandSHeadRun.denQ HandSHeadRun.tabQ) p w) HandSHeadRun.fenceQ 9000 RR.prog).map (fun x => (ob x.2).2.1) = some (hk.val w).2.1 := by
  kernel_rfl
theorem runC3 (w : World) : (HandSHeadRun.wholeF (fun p => HandSHeadRun.stepQ (HandSHeadRun.denQ HandSHeadRun.tabQ) p w) HandSHeadRun.fenceQ 9000 RR.prog).map (fun x => (ob x.2).2.2) = some (hk.val w).2.2 := by
  kernel_rfl
theorem runC (w : World) : (HandSHeadRun.wholeF (fun p => HandSHeadRun.stepQ (HandSHeadRun.denQ HandSHeadRun.tabQ) p w) HandSHeadRun.fenceQ 9000 RR.prog).map (fun x => ob x.2) = some (hk.val w) := DL.run_join (runC1 w) (runC2 w) (runC3 w)
theorem run (w : World) : HandSHeadRun.RunEqI RR qv hk ob 9000 names w := DL.run_join (runB w) (runD w) (runC w)
end
end K03

set_option Elab.async false
set_option linter.all false
set_option maxRecDepth 100000
set_option maxHeartbeats 4000000
namespace K03
open PySem PySem.Spec PyProof.Rows L2 DL
section
variable {P : Program} {w : World} {K : PySem.W.Frag} {mg : Str → Option Value} {base : Heap} {a : Nat → Addr} {d : Nat → FuncData}
/-! ### is_whole -/
theorem whole_is (x : D) : wholeD x = (isB "int" x && !isB "bool" x) := by cases x <;> rfl
abbrev n_is_whole : List Str := ["value"]
theorem sc_is_whole : FnScope n_is_whole ["value"] (defScope s_is_whole) := ⟨rfl, rfl, rfl, by decide +kernel, rfl, by decide +kernel, by decide +kernel⟩
theorem ok_is_whole (T : Tx P K mg base a d) : FnG P w K mg base 1 (a i_is_whole) (d i_is_whole) ["value"] (sp1 fun x Q _ => kindD x = true ∧ Q (.d (.bl (wholeD x)))) := by
  refine fn1_of T.F_is_whole sc_is_whole (fun cdv A outer s H E hr hg => (ds_one (ds_ret (de_and (de_callB call_isi sem_isi (by rfl) T.n_isinstance (by decide +kernel) (da_cons (de_see (pv 0)) (da_cons (de_ty (T := "int") (by rfl) T.n_int (by decide +kernel)) da_nil))) (de_one (de_not (de_callB call_isi sem_isi (by rfl) T.n_isinstance (by decide +kernel) (da_cons (de_see (pv 0)) (da_cons (de_ty (T := "bool") (by rfl) T.n_bool (by decide +kernel)) da_nil))))))))) (fun x Q E h => ?_)
  replace h : kindD x = true ∧ Q (.d (.bl (wholeD x))) := h
  obtain ⟨k, h⟩ := h
  refine l_isi rfl k (by decide) ?_
  rw [whole_is] at h
  refine br (fun e => ?_) (fun e => ?_)
  · refine l_isi rfl k (by decide) (l_truB ?_)
    rw [e] at h
    exact h
  · rw [e] at h
    exact h

/-! ### is_ratio -/
abbrev n_is_ratio : List Str := ["value"]
theorem sc_is_ratio : FnScope n_is_ratio ["value"] (defScope s_is_ratio) := ⟨rfl, rfl, rfl, by decide +kernel, rfl, by decide +kernel, by decide +kernel⟩
theorem ok_is_ratio (T : Tx P K mg base a d) : FnG P w K mg base 2 (a i_is_ratio) (d i_is_ratio) ["value"] (sp1 fun x Q _ => kindD x = true ∧ pairK x ∧ Q (.d (.bl (ratioD x)))) := by
  have G_is_whole : FnG P w K mg base 1 (a i_is_whole) (d i_is_whole) ["value"] (sp1 fun x Q _ => kindD x = true ∧ Q (.d (.bl (wholeD x)))) := ok_is_whole T
  refine fn1_of T.F_is_ratio sc_is_ratio (fun cdv A outer s H E hr hg => (ds_cons (ds_if (DW.dt (dw_or (dt_not (dt_val (de_callB call_isi sem_isi (by rfl) T.n_isinstance (by decide +kernel) (da_cons (de_see (pv 0)) (da_cons (de_ty (T := "tuple") (by rfl) T.n_tuple (by decide +kernel)) da_nil))))) (dw_or (dt_cmp (op_neAll hr.units) sem_ne (de_callB call_len sem_len (by rfl) T.n_len PySem.boot_len (da_cons (de_see (pv 0)) da_nil)) de_int (nomark _)) (dw_or (dt_not (dt_val (de_call G_is_whole (hr.mono (by decide)) hg (tkOf rfl rfl rfl rfl) (B_is_whole_1 T) (by rfl) T.m_is_whole T.F_is_whole.kp (da_cons (de_ix ix_seq sem_ix (de_see (pv 0)) de_int (fun _ _ => rfl)) da_nil)))) (dw_or1 (dt_not (dt_val (de_call G_is_whole (hr.mono (by decide)) hg (tkOf rfl rfl rfl rfl) (B_is_whole_1 T) (by rfl) T.m_is_whole T.F_is_whole.kp (da_cons (de_ix ix_seq sem_ix (de_see (pv 0)) de_int (fun _ _ => rfl)) da_nil))))))))) (ds_one (ds_ret de_bl)) ds_nil)
      (ds_one (ds_ret (de_and (de_cmp op_ge (sem_intR0 fun _ _ _ => .bl _) (de_ix ix_seq sem_ix (de_see (pv 0)) de_int (fun _ _ => rfl)) de_int (nomark _)) (de_one (de_cmp (op_eqAll hr.units) sem_eq (de_callF cr_gcd sem_gcd (by rfl) T.b_gcd (da_cons (de_ix ix_seq sem_ix (de_see (pv 0)) de_int (fun _ _ => rfl)) (da_cons (de_ix ix_seq sem_ix (de_see (pv 0)) de_int (fun _ _ => rfl)) da_nil))) de_int (nomark _)))))))) (fun x Q E h => ?_)
  replace h : kindD x = true ∧ pairK x ∧ Q (.d (.bl (ratioD x))) := h
  obtain ⟨k, k2, h⟩ := h
  refine l_isi rfl k (by decide) ?_
  cases x with
  | tup ds =>
    refine l_truB (brF ?_)
    refine l_lenT ?_
    refine l_eqI ?_
    match ds, k2, h with
    | [], _, h => exact brT (brT h)
    | [x], _, h =>
      rw [ratioD_ne (by simp)] at h
      exact brT (brT h)
    | _ :: _ :: _ :: r, _, h =>
      rw [ratioD_ne (by simp)] at h
      show Br (!decide (((r.length + 1 + 1 + 1 : Nat) : Int) = 2)) _ _
      rw [decide_eq_false (by omega)]
      exact brT (brT h)
    | [x, y], k2, h =>
      refine brF ?_
      refine l_ixT rfl ?_
      refine ⟨rfl, rfl, x, rfl, k2.1, ?_⟩
      refine l_truB ?_
      cases x with
      | int i =>
        refine brF ?_
        refine l_ixT rfl ?_
        refine ⟨rfl, rfl, y, rfl, k2.2, ?_⟩
        refine l_truB ?_
        cases y with
        | int j =>
          refine brF ?_
          refine l_ixT rfl ?_
          refine l_int0 ?_
          have e : ratioD (.tup [.int i, .int j]) = (decide (1 ≤ j) && decide (gcI i j = 1)) := rfl
          rw [e] at h
          refine br (fun h1 => ?_) (fun h1 => ?_)
          · refine l_ixT rfl ?_
            refine l_ixT rfl ?_
            refine l_gcd ?_
            refine l_eqI ?_
            rw [h1, Bool.true_and] at h
            exact h
          · rw [h1, Bool.false_and] at h
            exact h
        | ins _ _ => cases k2.2
        | dk _ => cases k2.2
        | dt _ => cases k2.2
        | any => cases k2.2
        | raw _ => cases k2.2
        | _ => exact brT h
      | ins _ _ => cases k2.1
      | dk _ => cases k2.1
      | dt _ => cases k2.1
      | any => cases k2.1
      | raw _ => cases k2.1
      | _ => exact brT (brT h)
  | ins _ _ => cases k
  | dk _ => cases k
  | dt _ => cases k
  | any => cases k
  | raw _ => cases k
  | _ => exact l_truB (brT (brT h))

/-! ### lowest -/
abbrev n_lowest : List Str := ["top", "bottom", "by"]
theorem sc_lowest : FnScope n_lowest ["top", "bottom"] (defScope s_lowest) := ⟨rfl, rfl, rfl, by decide +kernel, rfl, by decide +kernel, by decide +kernel⟩
theorem ok_lowest (T : Tx P K mg base a d) : FnG P w K mg base 1 (a i_lowest) (d i_lowest) ["top", "bottom"] (sp2 fun x y Q _ => ∃ n m : Int, x = .int n ∧ y = .int m ∧ 0 < m ∧ m.natAbs < 2 ^ 8000 ∧ Q (.d (rD (Rat.divInt n m)))) := by
  refine fn2_of T.F_lowest sc_lowest (fun cdv A outer s H E hr hg => (ds_cons (ds_set (i := 2) sc_lowest.nd rfl (Or.inl rfl) (de_callF cr_gcd sem_gcd (by rfl) T.b_gcd (da_cons (de_see (pv 0)) (da_cons (de_see (pv 1)) da_nil))))
      (ds_one (ds_ret (de_tup (da_cons (de_fdiv (de_var (pv 0)) (de_var (pv 2))) (da_cons (de_fdiv (de_var (pv 1)) (de_var (pv 2))) da_nil))))))) (fun x y Q E h => ?_)
  replace h : ∃ n m : Int, x = .int n ∧ y = .int m ∧ 0 < m ∧ m.natAbs < 2 ^ 8000 ∧ Q (.d (rD (Rat.divInt n m))) := h
  obtain ⟨n, m, rfl, rfl, h1, h2, h⟩ := h
  refine set_cut (.int (gcI n m)) (fun Q hQ => l_gcd hQ) ?_
  refine l_int1 (gc_bits h1 h2) ?_
  refine l_int1 (gc_bits (n := n) h1 h2) ?_
  rw [rD_low h1] at h
  exact l_tup rfl rfl h

/-! ### ratio_of -/
abbrev pRof (K : PySem.W.Frag) (x : D) (Q : DV → Prop) (E : XE') : Prop := kindD x = true ∧ pairK x ∧ (∀ q, ratOf x = some q → Q (.d (rD q))) ∧ (ratOf x = none → E (.ref (He.ga K "InvalidRatio")) (xd_InvalidRatio x))
abbrev n_ratio_of : List Str := ["value"]
theorem sc_ratio_of : FnScope n_ratio_of ["value"] (defScope s_ratio_of) := ⟨rfl, rfl, rfl, by decide +kernel, rfl, by decide +kernel, by decide +kernel⟩
theorem ok_ratio_of (T : Tx P K mg base a d) : FnG P w K mg base 3 (a i_ratio_of) (d i_ratio_of) ["value"] (sp1 fun x Q E => pRof K x Q E) := by
  have G_is_ratio : FnG P w K mg base 2 (a i_is_ratio) (d i_is_ratio) ["value"] (sp1 fun x Q _ => kindD x = true ∧ pairK x ∧ Q (.d (.bl (ratioD x)))) := ok_is_ratio T
  have G_is_whole : FnG P w K mg base 1 (a i_is_whole) (d i_is_whole) ["value"] (sp1 fun x Q _ => kindD x = true ∧ Q (.d (.bl (wholeD x)))) := ok_is_whole T
  refine fn1_of T.F_ratio_of sc_ratio_of (fun cdv A outer s H E hr hg => (ds_cons (ds_if (dt_val (de_call G_is_whole (hr.mono (by decide)) hg (tkOf rfl rfl rfl rfl) (B_is_whole_1 T) (by rfl) T.m_is_whole T.F_is_whole.kp (da_cons (de_var (pv 0)) da_nil))) (ds_one (ds_ret (de_tup (da_cons (de_var (pv 0)) (da_cons de_int da_nil))))) ds_nil)
      (ds_cons (ds_if (dt_not (dt_val (de_call G_is_ratio (hr.mono (by decide)) hg (tkOf rfl rfl rfl rfl) (B_is_ratio_1 T) (by rfl) T.m_is_ratio T.F_is_ratio.kp (da_cons (de_var (pv 0)) da_nil)))) (ds_one (ds_raise rfl (tkOf rfl rfl rfl rfl) T.x_InvalidRatio (hr.mono (by decide)) (by rfl) T.m_InvalidRatio (da_cons (de_var (pv 0)) da_nil))) ds_nil)
      (ds_one (ds_ret (de_var (pv 0))))))) (fun x Q E h => ?_)
  replace h : pRof K x Q E := h
  obtain ⟨k, k2, h1, h2⟩ := h
  refine ⟨rfl, rfl, x, rfl, k, ?_⟩
  refine l_truB ?_
  cases e : ratOf x with
  | some q =>
    rcases ratOf_some e with ⟨i, rfl, z⟩ | ⟨z1, z2, z3⟩
    · refine brT (l_tup rfl rfl ?_)
      have := h1 q e
      rw [z] at this
      exact this
    · rw [z1]
      refine brF ⟨rfl, rfl, x, rfl, k, k2, l_truB ?_⟩
      rw [z2]
      refine brF ?_
      have := h1 q e
      rw [← z3] at this
      exact this
  | none =>
    obtain ⟨z1, z2⟩ := ratOf_none k2 e
    rw [z1]
    refine brF ⟨rfl, rfl, x, rfl, k, k2, l_truB ?_⟩
    rw [z2]
    exact brT ⟨rfl, xr_InvalidRatio (h2 e)⟩

/-! ### plus -/
abbrev n_plus : List Str := ["one", "other"]
theorem sc_plus : FnScope n_plus ["one", "other"] (defScope s_plus) := ⟨rfl, rfl, rfl, by decide +kernel, rfl, by decide +kernel, by decide +kernel⟩
theorem ok_plus (T : Tx P K mg base a d) : FnG P w K mg base 2 (a i_plus) (d i_plus) ["one", "other"] (sp2 fun x y Q _ => ∃ p q : Rat, x = rD p ∧ y = rD q ∧ Nb 3900 p ∧ Nb 3900 q ∧ Q (.d (rD (p + q)))) := by
  have G_lowest : FnG P w K mg base 1 (a i_lowest) (d i_lowest) ["top", "bottom"] (sp2 fun x y Q _ => ∃ n m : Int, x = .int n ∧ y = .int m ∧ 0 < m ∧ m.natAbs < 2 ^ 8000 ∧ Q (.d (rD (Rat.divInt n m)))) := ok_lowest T
  refine fn2_of T.F_plus sc_plus (fun cdv A outer s H E hr hg => (ds_cons (ds_if (dt_cmp (op_eqAll hr.units) sem_eq (de_ix ix_seq sem_ix (de_see (pv 0)) de_int (fun _ _ => rfl)) (de_ix ix_seq sem_ix (de_see (pv 1)) de_int (fun _ _ => rfl)) (nomark _)) (ds_one (ds_ret (de_ifE (dt_cmp (op_eqAll hr.units) sem_eq (de_ix ix_seq sem_ix (de_see (pv 0)) de_int (fun _ _ => rfl)) de_int (nomark _)) (de_tup (da_cons (de_add (de_ix ix_seq sem_ix (de_see (pv 0)) de_int (fun _ _ => rfl)) (de_ix ix_seq sem_ix (de_see (pv 1)) de_int (fun _ _ => rfl))) (da_cons de_int da_nil))) (de_call G_lowest (hr.mono (by decide)) hg (tkOf rfl rfl rfl rfl) (B_lowest_2 T) (by rfl) T.m_lowest T.F_lowest.kp (da_cons (de_add (de_ix ix_seq sem_ix (de_see (pv 0)) de_int (fun _ _ => rfl)) (de_ix ix_seq sem_ix (de_see (pv 1)) de_int (fun _ _ => rfl))) (da_cons (de_ix ix_seq sem_ix (de_see (pv 0)) de_int (fun _ _ => rfl)) da_nil)))))) ds_nil)
      (ds_one (ds_ret (de_call G_lowest (hr.mono (by decide)) hg (tkOf rfl rfl rfl rfl) (B_lowest_2 T) (by rfl) T.m_lowest T.F_lowest.kp (da_cons (de_add (de_mul (de_ix ix_seq sem_ix (de_see (pv 0)) de_int (fun _ _ => rfl)) (de_ix ix_seq sem_ix (de_see (pv 1)) de_int (fun _ _ => rfl))) (de_mul (de_ix ix_seq sem_ix (de_see (pv 1)) de_int (fun _ _ => rfl)) (de_ix ix_seq sem_ix (de_see (pv 0)) de_int (fun _ _ => rfl)))) (da_cons (de_mul (de_ix ix_seq sem_ix (de_see (pv 0)) de_int (fun _ _ => rfl)) (de_ix ix_seq sem_ix (de_see (pv 1)) de_int (fun _ _ => rfl))) da_nil))))))) (fun x y Q E h => ?_)
  replace h : ∃ p q : Rat, x = rD p ∧ y = rD q ∧ Nb 3900 p ∧ Nb 3900 q ∧ Q (.d (rD (p + q))) := h
  obtain ⟨p, q, rfl, rfl, hp, hq, h⟩ := h
  refine l_ixT rfl (l_ixT rfl (l_eqI ?_))
  refine br (fun h1 => ?_) (fun h1 => ?_)
  · have e : (p.den : Int) = q.den := of_decide_eq_true h1
    refine l_ixT rfl (l_eqI ?_)
    refine br (fun h2 => ?_) (fun h2 => ?_)
    · have e2 : (p.den : Int) = 1 := of_decide_eq_true h2
      refine l_ixT rfl (l_ixT rfl (l_addI (l_tup rfl rfl ?_)))
      have e3 : rD (p + q) = rt (p.num + q.num) 1 := by
        rw [same_den e, e2, rD_of (by decide) (by unfold gcI; simp)]
      rw [e3] at h
      exact h
    · refine l_ixT rfl (l_ixT rfl (l_addI (l_ixT rfl ?_)))
      refine ⟨rfl, rfl, _, _, rfl, _, _, rfl, rfl, den_pos p, ?_, ?_⟩
      · exact Nat.lt_of_lt_of_le (nbd hp) (Nat.pow_le_pow_right (by decide) (by decide))
      · rw [← same_den e]; exact h
  · refine l_ixT rfl (l_ixT rfl (l_mulI (mulW hp.n (nbd hq) (by decide)) ?_))
    refine l_ixT rfl (l_ixT rfl (l_mulI (mulW hq.n (nbd hp) (by decide)) (l_addI ?_)))
    refine l_ixT rfl (l_ixT rfl (l_mulI (mulW (nbd hp) (nbd hq) (by decide)) ?_))
    refine ⟨rfl, rfl, _, _, rfl, _, _, rfl, rfl, Int.mul_pos (den_pos p) (den_pos q), den_bits hp hq, ?_⟩
    rw [rat_add]; exact h

/-! ### times -/
abbrev n_times : List Str := ["one", "other"]
theorem sc_times : FnScope n_times ["one", "other"] (defScope s_times) := ⟨rfl, rfl, rfl, by decide +kernel, rfl, by decide +kernel, by decide +kernel⟩
theorem ok_times (T : Tx P K mg base a d) : FnG P w K mg base 2 (a i_times) (d i_times) ["one", "other"] (sp2 fun x y Q _ => ∃ p q : Rat, x = rD p ∧ y = rD q ∧ Nb 3900 p ∧ Nb 3900 q ∧ Q (.d (rD (p * q)))) := by
  have G_lowest : FnG P w K mg base 1 (a i_lowest) (d i_lowest) ["top", "bottom"] (sp2 fun x y Q _ => ∃ n m : Int, x = .int n ∧ y = .int m ∧ 0 < m ∧ m.natAbs < 2 ^ 8000 ∧ Q (.d (rD (Rat.divInt n m)))) := ok_lowest T
  refine fn2_of T.F_times sc_times (fun cdv A outer s H E hr hg => (ds_cons (ds_if (DW.dt (dw_and (dt_cmp (op_eqAll hr.units) sem_eq (de_ix ix_seq sem_ix (de_see (pv 0)) de_int (fun _ _ => rfl)) de_int (nomark _)) (dw_and1 (dt_cmp (op_eqAll hr.units) sem_eq (de_ix ix_seq sem_ix (de_see (pv 1)) de_int (fun _ _ => rfl)) de_int (nomark _))))) (ds_one (ds_ret (de_tup (da_cons (de_mul (de_ix ix_seq sem_ix (de_see (pv 0)) de_int (fun _ _ => rfl)) (de_ix ix_seq sem_ix (de_see (pv 1)) de_int (fun _ _ => rfl))) (da_cons de_int da_nil))))) ds_nil)
      (ds_one (ds_ret (de_call G_lowest (hr.mono (by decide)) hg (tkOf rfl rfl rfl rfl) (B_lowest_2 T) (by rfl) T.m_lowest T.F_lowest.kp (da_cons (de_mul (de_ix ix_seq sem_ix (de_see (pv 0)) de_int (fun _ _ => rfl)) (de_ix ix_seq sem_ix (de_see (pv 1)) de_int (fun _ _ => rfl))) (da_cons (de_mul (de_ix ix_seq sem_ix (de_see (pv 0)) de_int (fun _ _ => rfl)) (de_ix ix_seq sem_ix (de_see (pv 1)) de_int (fun _ _ => rfl))) da_nil))))))) (fun x y Q E h => ?_)
  replace h : ∃ p q : Rat, x = rD p ∧ y = rD q ∧ Nb 3900 p ∧ Nb 3900 q ∧ Q (.d (rD (p * q))) := h
  obtain ⟨p, q, rfl, rfl, hp, hq, h⟩ := h
  refine seq_cut (fun s => s = [some (.d (rD p)), some (.d (rD q))]) (fun N hN => ?_) (fun s hs => ?_)
  · refine l_ixT rfl (l_eqI ?_)
    refine br (fun h1 => ?_) (fun h1 => brF (hN _ rfl))
    have e1 : (p.den : Int) = 1 := of_decide_eq_true h1
    refine l_ixT rfl (l_eqI ?_)
    refine br (fun h2 => ?_) (fun h2 => hN _ rfl)
    have e2 : (q.den : Int) = 1 := of_decide_eq_true h2
    refine l_ixT rfl (l_ixT rfl (l_mulI (mulW hp.n hq.n (by decide)) (l_tup rfl rfl ?_)))
    have e3 : rD (p * q) = rt (p.num * q.num) 1 := by
      rw [← rat_mul, e1, e2, Int.mul_one, rD_of (by decide) (by unfold gcI; simp)]
    rw [e3] at h
    exact h
  subst hs
  refine l_ixT rfl (l_ixT rfl (l_mulI (mulW hp.n hq.n (by decide)) ?_))
  refine l_ixT rfl (l_ixT rfl (l_mulI (mulW (nbd hp) (nbd hq) (by decide)) ?_))
  refine ⟨rfl, rfl, _, _, rfl, _, _, rfl, rfl, Int.mul_pos (den_pos p) (den_pos q), den_bits hp hq, ?_⟩
  rw [rat_mul]; exact h

/-! ### below -/
abbrev n_below : List Str := ["one", "other"]
theorem sc_below : FnScope n_below ["one", "other"] (defScope s_below) := ⟨rfl, rfl, rfl, by decide +kernel, rfl, by decide +kernel, by decide +kernel⟩
theorem ok_below (T : Tx P K mg base a d) : FnG P w K mg base 1 (a i_below) (d i_below) ["one", "other"] (sp2 fun x y Q _ => ∃ p q : Rat, x = rD p ∧ y = rD q ∧ Nb 3900 p ∧ Nb 3900 q ∧ Q (.d (.bl (decide (p < q))))) := by
  refine fn2_of T.F_below sc_below (fun cdv A outer s H E hr hg => (ds_one (ds_ret (de_cmp op_lt (sem_intR0 fun _ _ _ => .bl _) (de_mul (de_ix ix_seq sem_ix (de_see (pv 0)) de_int (fun _ _ => rfl)) (de_ix ix_seq sem_ix (de_see (pv 1)) de_int (fun _ _ => rfl))) (de_mul (de_ix ix_seq sem_ix (de_see (pv 1)) de_int (fun _ _ => rfl)) (de_ix ix_seq sem_ix (de_see (pv 0)) de_int (fun _ _ => rfl))) (nomark _))))) (fun x y Q E h => ?_)
  replace h : ∃ p q : Rat, x = rD p ∧ y = rD q ∧ Nb 3900 p ∧ Nb 3900 q ∧ Q (.d (.bl (decide (p < q)))) := h
  obtain ⟨p, q, rfl, rfl, hp, hq, h⟩ := h
  refine l_ixT rfl (l_ixT rfl (l_mulI (mulW hp.n (nbd hq) (by decide)) ?_))
  refine l_ixT rfl (l_ixT rfl (l_mulI (mulW hq.n (nbd hp) (by decide)) ?_))
  refine l_int0 ?_
  rw [rat_lt]; exact h

/-! ### added -/
def addL : List Rat → Rat → Rat
  | [], s => s
  | q :: r, s => addL r (s + q)
def AddOk : List Rat → Rat → Prop
  | [], _ => True
  | q :: r, s => Nb 3900 s ∧ Nb 3900 q ∧ AddOk r (s + q)
abbrev Vals2 : List D → List Rat → Prop := Fa2 fun d q => ratOf d = some q
theorem fa2_snoc {α β : Type} {R : α → β → Prop} {xs : List α} {ys : List β} {x : α} {y : β} (h : Fa2 R xs ys) (k : R x y) : Fa2 R (xs ++ [x]) (ys ++ [y]) := h.app (.cons k .nil)
/-- what the sum and the product of any number of values ask: each is told, the first that is none is refused -/
abbrev pAll (K : PySem.W.Frag) (ok : List Rat → Prop) (v : List Rat → Rat) (x : D) (Q : DV → Prop) (E : XE') : Prop := ∃ ds : List D, x = .tup ds ∧ (∀ d ∈ ds, kindD d = true ∧ pairK d) ∧ ds.length ≤ 1000 ∧ (∀ qs : List Rat, Vals2 ds qs → ok qs ∧ Q (.d (rD (v qs)))) ∧ (∀ a d b, ds = a ++ d :: b → (∀ e ∈ a, (ratOf e).isSome = true) → ratOf d = none → E (.ref (He.ga K "InvalidRatio")) (xd_InvalidRatio d))
theorem vals_some : ∀ {ds : List D} {qs : List Rat}, Vals2 ds qs → ∀ e ∈ ds, (ratOf e).isSome = true
  | _, _, .nil, _, h => by cases h
  | _, _, .cons k t, e, h => by
    rcases List.mem_cons.mp h with rfl | h
    · rw [k]; rfl
    · exact vals_some t e h
abbrev n_added : List Str := ["values", "found", "pair", "value"]
theorem sc_added : FnScope n_added ["values"] (defScope s_added) := ⟨rfl, rfl, rfl, by decide +kernel, rfl, by decide +kernel, by decide +kernel⟩
theorem ok_added (T : Tx P K mg base a d) : FnV P w K mg base 5 (a i_added) (spV 0 (fun args Q E => ∃ x : D, args = [.d x] ∧ (pAll K (fun qs => AddOk qs 0) (fun qs => addL qs 0) x Q E))) := by
  have G_plus : FnG P w K mg base 2 (a i_plus) (d i_plus) ["one", "other"] (sp2 fun x y Q _ => ∃ p q : Rat, x = rD p ∧ y = rD q ∧ Nb 3900 p ∧ Nb 3900 q ∧ Q (.d (rD (p + q)))) := ok_plus T
  have G_ratio_of : FnG P w K mg base 3 (a i_ratio_of) (d i_ratio_of) ["value"] (sp1 fun x Q E => pRof K x Q E) := ok_ratio_of T
  refine fnV_of (ps := []) T.F_added sc_added (fun _ _ _ _ _ _ us rest h => match us, rest, h with | [], [], _ => rfl | [], _ :: _, _ => rfl) (fun args Q E h => no_seeL (by obtain ⟨x, rfl, h⟩ := h; intro x hx; simp only [List.mem_cons, List.not_mem_nil, or_false] at hx; rcases hx with rfl <;> exact .inl (.inl ⟨_, rfl⟩))) (fun cdv A outer s H E hr hg => (ds_cons (ds_set (i := 1) sc_added.nd rfl (Or.inl rfl) (de_globD (by rfl) T.c_ZERO))
      (ds_cons (ds_for (passes_of rfl) rfl (di_any (de_lcX (own := [("value", 3)]) rfl sc_added.nd (di_any (de_var (pv 0))) (blkOk_by (own := [("value", 3)]) (N := n_added) (sc := (defScope s_added)) (by decide +kernel)) (tkOf rfl rfl rfl rfl) rfl rfl (fun _ _ _ _ _ => (dg_name (i := 3) sc_added.nd rfl (Or.inl rfl))) (fun _ _ _ _ _ => dts_nil) (fun _ _ _ _ _ => (de_call G_ratio_of (hr.mono (by decide)) hg takes_blk (B_ratio_of_1 T) (by rfl) T.m_ratio_of T.F_ratio_of.kp (da_cons (de_var (pv 3)) da_nil))))) (dg_name (i := 2) sc_added.nd rfl (Or.inl rfl)) (ds_one (ds_set (i := 1) sc_added.nd rfl (Or.inl rfl) (de_call G_plus (hr.mono (by decide)) hg (tkOf rfl rfl rfl rfl) (B_plus_2 T) (by rfl) T.m_plus T.F_plus.kp (da_cons (de_var (pv 1)) (da_cons (de_var (pv 2)) da_nil))))))
      (ds_one (ds_ret (de_var (pv 1))))))) (fun args Q E h => ?_)
  obtain ⟨x, rfl, h⟩ := h
  obtain ⟨ds, rfl, hk, hl, hq, hx⟩ := h
  have hz : szl = 16777216 := rfl
  refine set_st (set_go (s' := [some (.d (.tup ds)), some (.d (rD 0)), none, none]) rfl ?_)
  refine seq_cut (fun s => ∃ qs a b, Vals2 ds qs ∧ s = [some (.d (.tup ds)), some (.d (rD (addL qs 0))), a, b]) (fun N hN => ?_) (fun s hs => ?_)
  · refine l_iterT ?_
    refine lcLX_ind (fun r acc s => ∃ a qs, ds = a ++ r ∧ Vals2 a qs ∧ acc = qs.map rD ∧ s = [some (.d (.tup ds)), some (.d (rD 0)), none, none]) (fun N d r acc s hN hs => ?_) (fun acc s hs => ?_) _ _ _ ⟨[], [], rfl, .nil, rfl, rfl⟩
    · obtain ⟨a, qs, ed, fa, rfl, rfl⟩ := hs
      have hm : d ∈ ds := by rw [ed]; simp
      have hla : qs.length ≤ 1000 := by
        have h1 := fa.len
        have h2 : ds.length = (a ++ d :: r).length := by rw [ed]
        rw [List.length_append] at h2
        omega
      refine brT ?_
      refine ⟨rfl, rfl, d, rfl, (hk d hm).1, (hk d hm).2, fun q hq' => ?_, fun e => ?_⟩
      · refine ⟨by rw [List.length_map]; omega, hN _ _ ⟨a ++ [d], qs ++ [q], by rw [ed]; simp, fa2_snoc fa hq', by rw [List.map_append]; rfl, rfl⟩⟩
      · exact hx a d r ed (vals_some fa) e
    · obtain ⟨a, qs, ed, fa, rfl, rfl⟩ := hs
      rw [List.append_nil] at ed
      subst ed
      obtain ⟨ok, _⟩ := hq qs fa
      refine l_iterL (ds := qs.map rD) ?_
      refine forL_ind (fun r s => ∃ (t : List Rat) (y : Rat) (u v : Option DV), r = t.map rD ∧ AddOk t y ∧ addL t y = addL qs 0 ∧ s = [some (.d (.tup ds)), some (.d (rD y)), u, v]) (fun N' d r s hN' hs => ?_) (fun s hs => ?_) _ _ ⟨qs, 0, _, _, rfl, ok, rfl, rfl⟩
      · obtain ⟨t, y, u, v, er, aok, eq, rfl⟩ := hs
        cases t with
        | nil => cases er
        | cons q t =>
          cases er
          obtain ⟨b1, b2, b3⟩ := aok
          exact ⟨rfl, rfl, _, _, rfl, y, q, rfl, rfl, b1, b2, hN' _ ⟨t, y + q, _, _, rfl, b3, eq, rfl⟩⟩
      · obtain ⟨t, y, u, v, er, aok, eq, rfl⟩ := hs
        cases t with
        | nil =>
          have eq : y = addL qs 0 := eq
          subst eq
          exact hN _ ⟨qs, _, _, fa, rfl⟩
        | cons q t => cases er
  obtain ⟨qs, a, b, fa, rfl⟩ := hs
  exact (hq qs fa).2

/-! ### multiplied -/
def mulL : List Rat → Rat → Rat
  | [], s => s
  | q :: r, s => mulL r (s * q)
def MulOkL : List Rat → Rat → Prop
  | [], _ => True
  | q :: r, s => Nb 3900 s ∧ Nb 3900 q ∧ MulOkL r (s * q)
abbrev n_multiplied : List Str := ["values", "found", "pair", "value"]
theorem sc_multiplied : FnScope n_multiplied ["values"] (defScope s_multiplied) := ⟨rfl, rfl, rfl, by decide +kernel, rfl, by decide +kernel, by decide +kernel⟩
theorem ok_multiplied (T : Tx P K mg base a d) : FnV P w K mg base 5 (a i_multiplied) (spV 0 (fun args Q E => ∃ x : D, args = [.d x] ∧ (pAll K (fun qs => MulOkL qs 1) (fun qs => mulL qs 1) x Q E))) := by
  have G_ratio_of : FnG P w K mg base 3 (a i_ratio_of) (d i_ratio_of) ["value"] (sp1 fun x Q E => pRof K x Q E) := ok_ratio_of T
  have G_times : FnG P w K mg base 2 (a i_times) (d i_times) ["one", "other"] (sp2 fun x y Q _ => ∃ p q : Rat, x = rD p ∧ y = rD q ∧ Nb 3900 p ∧ Nb 3900 q ∧ Q (.d (rD (p * q)))) := ok_times T
  refine fnV_of (ps := []) T.F_multiplied sc_multiplied (fun _ _ _ _ _ _ us rest h => match us, rest, h with | [], [], _ => rfl | [], _ :: _, _ => rfl) (fun args Q E h => no_seeL (by obtain ⟨x, rfl, h⟩ := h; intro x hx; simp only [List.mem_cons, List.not_mem_nil, or_false] at hx; rcases hx with rfl <;> exact .inl (.inl ⟨_, rfl⟩))) (fun cdv A outer s H E hr hg => (ds_cons (ds_set (i := 1) sc_multiplied.nd rfl (Or.inl rfl) (de_globD (by rfl) T.c_ONE))
      (ds_cons (ds_for (passes_of rfl) rfl (di_any (de_lcX (own := [("value", 3)]) rfl sc_multiplied.nd (di_any (de_var (pv 0))) (blkOk_by (own := [("value", 3)]) (N := n_multiplied) (sc := (defScope s_multiplied)) (by decide +kernel)) (tkOf rfl rfl rfl rfl) rfl rfl (fun _ _ _ _ _ => (dg_name (i := 3) sc_multiplied.nd rfl (Or.inl rfl))) (fun _ _ _ _ _ => dts_nil) (fun _ _ _ _ _ => (de_call G_ratio_of (hr.mono (by decide)) hg takes_blk (B_ratio_of_1 T) (by rfl) T.m_ratio_of T.F_ratio_of.kp (da_cons (de_var (pv 3)) da_nil))))) (dg_name (i := 2) sc_multiplied.nd rfl (Or.inl rfl)) (ds_one (ds_set (i := 1) sc_multiplied.nd rfl (Or.inl rfl) (de_call G_times (hr.mono (by decide)) hg (tkOf rfl rfl rfl rfl) (B_times_2 T) (by rfl) T.m_times T.F_times.kp (da_cons (de_var (pv 1)) (da_cons (de_var (pv 2)) da_nil))))))
      (ds_one (ds_ret (de_var (pv 1))))))) (fun args Q E h => ?_)
  obtain ⟨x, rfl, h⟩ := h
  obtain ⟨ds, rfl, hk, hl, hq, hx⟩ := h
  have hz : szl = 16777216 := rfl
  refine set_st (set_go (s' := [some (.d (.tup ds)), some (.d (rD 1)), none, none]) rfl ?_)
  refine seq_cut (fun s => ∃ qs a b, Vals2 ds qs ∧ s = [some (.d (.tup ds)), some (.d (rD (mulL qs 1))), a, b]) (fun N hN => ?_) (fun s hs => ?_)
  · refine l_iterT ?_
    refine lcLX_ind (fun r acc s => ∃ a qs, ds = a ++ r ∧ Vals2 a qs ∧ acc = qs.map rD ∧ s = [some (.d (.tup ds)), some (.d (rD 1)), none, none]) (fun N d r acc s hN hs => ?_) (fun acc s hs => ?_) _ _ _ ⟨[], [], rfl, .nil, rfl, rfl⟩
    · obtain ⟨a, qs, ed, fa, rfl, rfl⟩ := hs
      have hm : d ∈ ds := by rw [ed]; simp
      have hla : qs.length ≤ 1000 := by
        have h1 := fa.len
        have h2 : ds.length = (a ++ d :: r).length := by rw [ed]
        rw [List.length_append] at h2
        omega
      refine brT ?_
      refine ⟨rfl, rfl, d, rfl, (hk d hm).1, (hk d hm).2, fun q hq' => ?_, fun e => ?_⟩
      · refine ⟨by rw [List.length_map]; omega, hN _ _ ⟨a ++ [d], qs ++ [q], by rw [ed]; simp, fa2_snoc fa hq', by rw [List.map_append]; rfl, rfl⟩⟩
      · exact hx a d r ed (vals_some fa) e
    · obtain ⟨a, qs, ed, fa, rfl, rfl⟩ := hs
      rw [List.append_nil] at ed
      subst ed
      obtain ⟨ok, _⟩ := hq qs fa
      refine l_iterL (ds := qs.map rD) ?_
      refine forL_ind (fun r s => ∃ (t : List Rat) (y : Rat) (u v : Option DV), r = t.map rD ∧ MulOkL t y ∧ mulL t y = mulL qs 1 ∧ s = [some (.d (.tup ds)), some (.d (rD y)), u, v]) (fun N' d r s hN' hs => ?_) (fun s hs => ?_) _ _ ⟨qs, 1, _, _, rfl, ok, rfl, rfl⟩
      · obtain ⟨t, y, u, v, er, aok, eq, rfl⟩ := hs
        cases t with
        | nil => cases er
        | cons q t =>
          cases er
          obtain ⟨b1, b2, b3⟩ := aok
          exact ⟨rfl, rfl, _, _, rfl, y, q, rfl, rfl, b1, b2, hN' _ ⟨t, y * q, _, _, rfl, b3, eq, rfl⟩⟩
      · obtain ⟨t, y, u, v, er, aok, eq, rfl⟩ := hs
        cases t with
        | nil =>
          have eq : y = mulL qs 1 := eq
          subst eq
          exact hN _ ⟨qs, _, _, fa, rfl⟩
        | cons q t => cases er
  obtain ⟨qs, a, b, fa, rfl⟩ := hs
  exact (hq qs fa).2

/-! ### is_less -/
abbrev pLess (K : PySem.W.Frag) (x y : D) (Q : DV → Prop) (E : XE') : Prop := (kindD x = true ∧ pairK x) ∧ (kindD y = true ∧ pairK y) ∧ (∀ p q, ratOf x = some p → ratOf y = some q → Nb 3900 p ∧ Nb 3900 q ∧ Q (.d (.bl (decide (p < q))))) ∧ (ratOf x = none → E (.ref (He.ga K "InvalidRatio")) (xd_InvalidRatio x)) ∧ (∀ p, ratOf x = some p → ratOf y = none → E (.ref (He.ga K "InvalidRatio")) (xd_InvalidRatio y))
abbrev n_is_less : List Str := ["one", "other", "left", "right"]
theorem sc_is_less : FnScope n_is_less ["one", "other"] (defScope s_is_less) := ⟨rfl, rfl, rfl, by decide +kernel, rfl, by decide +kernel, by decide +kernel⟩
theorem ok_is_less (T : Tx P K mg base a d) : FnG P w K mg base 5 (a i_is_less) (d i_is_less) ["one", "other"] (sp2 fun x y Q E => pLess K x y Q E) := by
  have G_below : FnG P w K mg base 1 (a i_below) (d i_below) ["one", "other"] (sp2 fun x y Q _ => ∃ p q : Rat, x = rD p ∧ y = rD q ∧ Nb 3900 p ∧ Nb 3900 q ∧ Q (.d (.bl (decide (p < q))))) := ok_below T
  have G_ratio_of : FnG P w K mg base 3 (a i_ratio_of) (d i_ratio_of) ["value"] (sp1 fun x Q E => pRof K x Q E) := ok_ratio_of T
  refine fn2_of T.F_is_less sc_is_less (fun cdv A outer s H E hr hg => (ds_cons (ds_par (i := 2) (j := 3) rfl sc_is_less.nd rfl rfl (by decide) rfl rfl (da_cons (de_call G_ratio_of (hr.mono (by decide)) hg (tkOf rfl rfl rfl rfl) (B_ratio_of_1 T) (by rfl) T.m_ratio_of T.F_ratio_of.kp (da_cons (de_var (pv 0)) da_nil)) (da_cons (de_call G_ratio_of (hr.mono (by decide)) hg (tkOf rfl rfl rfl rfl) (B_ratio_of_1 T) (by rfl) T.m_ratio_of T.F_ratio_of.kp (da_cons (de_var (pv 1)) da_nil)) da_nil)) (by rfl))
      (ds_one (ds_ret (de_call G_below (hr.mono (by decide)) hg (tkOf rfl rfl rfl rfl) (B_below_2 T) (by rfl) T.m_below T.F_below.kp (da_cons (de_var (pv 2)) (da_cons (de_var (pv 3)) da_nil))))))) (fun x y Q E h => ?_)
  replace h : pLess K x y Q E := h
  obtain ⟨⟨kx, px⟩, ⟨ky, py⟩, h1, h2, h3⟩ := h
  refine par_cutP (s' := [some (.d x), some (.d y), none, none]) (fun a b => ∃ p q, ratOf x = some p ∧ ratOf y = some q ∧ a = rD p ∧ b = rD q) (fun Q' hQ => ?_) (fun a b hab => ?_)
  · refine ⟨rfl, rfl, _, rfl, kx, px, fun p hp => ?_, fun e => h2 e⟩
    refine ⟨rfl, rfl, _, rfl, ky, py, fun q hq => ?_, fun e => h3 p hp e⟩
    exact hQ _ _ ⟨p, q, hp, hq, rfl, rfl⟩
  obtain ⟨p, q, hp, hq, rfl, rfl⟩ := hab
  obtain ⟨b1, b2, h4⟩ := h1 p q hp hq
  exact ⟨rfl, rfl, _, _, rfl, p, q, rfl, rfl, b1, b2, h4⟩

/-! ### _law_low -/
abbrev n__law_low : List Str := ["_law_top", "_law_bottom", "_law_one_z", "_law_other_z"]
theorem sc__law_low : FnScope n__law_low ["_law_top", "_law_bottom"] (defScope s__law_low) := ⟨rfl, rfl, rfl, by decide +kernel, rfl, by decide +kernel, by decide +kernel⟩
theorem ok__law_low (T : Tx P K mg base a d) : FnG P w K mg base 1 (a i__law_low) (d i__law_low) ["_law_top", "_law_bottom"] (sp2 fun x y Q _ => ∃ n m : Int, x = .int n ∧ y = .int m ∧ 0 < m ∧ m.natAbs < 2 ^ 8000 ∧ Q (.d (rD (Rat.divInt n m)))) := by
  refine fn2_of T.F__law_low sc__law_low (fun cdv A outer s H E hr hg => (ds_cons (ds_par (i := 2) (j := 3) rfl sc__law_low.nd rfl rfl (by decide) rfl rfl (da_cons (de_callB call_abs sem_abs (by rfl) T.n_abs (by decide +kernel) (da_cons (de_see (pv 0)) da_nil)) (da_cons (de_var (pv 1)) da_nil)) (by rfl))
      (ds_cons (ds_while (passes_of rfl) (dt_cmp op_gt (sem_intR0 fun _ _ _ => .bl _) (de_see (pv 3)) de_int (nomark _)) (ds_one (ds_par (i := 2) (j := 3) rfl sc__law_low.nd rfl rfl (by decide) rfl rfl (da_cons (de_var (pv 3)) (da_cons (de_mod (de_callT call_int1 sem_int (by rfl) T.n_int (by decide +kernel) (da_cons (de_see (pv 2)) da_nil)) (de_var (pv 3))) da_nil)) (by rfl))))
      (ds_one (ds_ret (de_tup (da_cons (de_fdiv (de_var (pv 0)) (de_var (pv 2))) (da_cons (de_fdiv (de_var (pv 1)) (de_var (pv 2))) da_nil)))))))) (fun x y Q E h => ?_)
  replace h : ∃ n m : Int, x = .int n ∧ y = .int m ∧ 0 < m ∧ m.natAbs < 2 ^ 8000 ∧ Q (.d (rD (Rat.divInt n m))) := h
  obtain ⟨n, m, rfl, rfl, h1, h2, h⟩ := h
  have ea : (if n < 0 then -n else n) = ((n.natAbs : Nat) : Int) := by split <;> omega
  refine par_cut (.int (n.natAbs : Nat)) (.int m) (s' := [some (.d (.int n)), some (.d (.int m)), none, none]) (fun Q hQ => ?_) ?_
  · refine l_abs ?_
    rw [ea]
    exact hQ
  refine seq_cut (fun s => s = [some (.d (.int n)), some (.d (.int m)), some (.d (.int (gcI n m))), some (.d (.int 0))]) (fun N hN => ?_) (fun s hs => ?_)
  · refine ⟨fun k s => ∃ x : Nat, s = [some (.d (.int n)), some (.d (.int m)), some (.d (.int (x : Int))), some (.d (.int (k : Int)))] ∧ Nat.gcd x k = Nat.gcd n.natAbs m.natAbs, ⟨m.natAbs, n.natAbs, ?_, rfl⟩, ?_⟩
    · have : ((m.natAbs : Nat) : Int) = m := by omega
      rw [this]; rfl
    · rintro k s ⟨x, rfl, hg⟩
      refine l_int0 ?_
      refine br (fun hk => ?_) (fun hk => ?_)
      · have hk' : (0 : Int) < (k : Int) := of_decide_eq_true hk
        refine l_int ?_
        refine l_int1 hk' ?_
        refine ⟨x % k, Nat.mod_lt _ (by omega), k, ?_, ?_⟩
        · show [_, _, _, some (DV.d (.int ((x : Int) % (k : Int))))] = _
          rw [← Int.natCast_emod]
        · rw [← hg, Nat.gcd_comm x k, Nat.gcd_rec k x, Nat.gcd_comm]
      · have hk' : ¬ (0 : Int) < (k : Int) := of_decide_eq_false hk
        have k0 : k = 0 := by omega
        subst k0
        refine hN _ ?_
        rw [Nat.gcd_zero_right] at hg
        rw [hg]; rfl
  · subst hs
    refine l_int1 (gc_bits h1 h2) ?_
    refine l_int1 (gc_bits (n := n) h1 h2) ?_
    rw [rD_low h1] at h
    exact l_tup rfl rfl h
end
end K03

set_option Elab.async false
set_option linter.all false
set_option maxRecDepth 100000
set_option maxHeartbeats 4000000
namespace K03
open PySem PySem.Spec PyProof.Rows L2 DL
section
variable {P : Program} {w : World} {K : PySem.W.Frag} {mg : Str → Option Value} {base : Heap} {a : Nat → Addr} {d : Nat → FuncData}
/-! ### _law_plus -/
abbrev n__law_plus : List Str := ["_law_one_z", "_law_other_z"]
theorem sc__law_plus : FnScope n__law_plus ["_law_one_z", "_law_other_z"] (defScope s__law_plus) := ⟨rfl, rfl, rfl, by decide +kernel, rfl, by decide +kernel, by decide +kernel⟩
theorem ok__law_plus (T : Tx P K mg base a d) : FnG P w K mg base 2 (a i__law_plus) (d i__law_plus) ["_law_one_z", "_law_other_z"] (sp2 fun x y Q _ => ∃ p q : Rat, x = rD p ∧ y = rD q ∧ Nb 3900 p ∧ Nb 3900 q ∧ Q (.d (rD (p + q)))) := by
  have G__law_low : FnG P w K mg base 1 (a i__law_low) (d i__law_low) ["_law_top", "_law_bottom"] (sp2 fun x y Q _ => ∃ n m : Int, x = .int n ∧ y = .int m ∧ 0 < m ∧ m.natAbs < 2 ^ 8000 ∧ Q (.d (rD (Rat.divInt n m)))) := ok__law_low T
  refine fn2_of T.F__law_plus sc__law_plus (fun cdv A outer s H E hr hg => (ds_one (ds_ret (de_call G__law_low (hr.mono (by decide)) hg (tkOf rfl rfl rfl rfl) (B__law_low_2 T) (by rfl) T.m__law_low T.F__law_low.kp (da_cons (de_add (de_mul (de_ix ix_seq sem_ix (de_see (pv 0)) de_int (fun _ _ => rfl)) (de_ix ix_seq sem_ix (de_see (pv 1)) de_int (fun _ _ => rfl))) (de_mul (de_ix ix_seq sem_ix (de_see (pv 1)) de_int (fun _ _ => rfl)) (de_ix ix_seq sem_ix (de_see (pv 0)) de_int (fun _ _ => rfl)))) (da_cons (de_mul (de_ix ix_seq sem_ix (de_see (pv 0)) de_int (fun _ _ => rfl)) (de_ix ix_seq sem_ix (de_see (pv 1)) de_int (fun _ _ => rfl))) da_nil)))))) (fun x y Q E h => ?_)
  replace h : ∃ p q : Rat, x = rD p ∧ y = rD q ∧ Nb 3900 p ∧ Nb 3900 q ∧ Q (.d (rD (p + q))) := h
  obtain ⟨p, q, rfl, rfl, hp, hq, h⟩ := h
  refine l_ixT rfl (l_ixT rfl (l_mulI (mulW hp.n (nbd hq) (by decide)) ?_))
  refine l_ixT rfl (l_ixT rfl (l_mulI (mulW hq.n (nbd hp) (by decide)) (l_addI ?_)))
  refine l_ixT rfl (l_ixT rfl (l_mulI (mulW (nbd hp) (nbd hq) (by decide)) ?_))
  refine ⟨rfl, rfl, _, _, rfl, _, _, rfl, rfl, Int.mul_pos (den_pos p) (den_pos q), den_bits hp hq, ?_⟩
  rw [rat_add]; exact h

/-! ### _law_times -/
abbrev n__law_times : List Str := ["_law_one_z", "_law_other_z"]
theorem sc__law_times : FnScope n__law_times ["_law_one_z", "_law_other_z"] (defScope s__law_times) := ⟨rfl, rfl, rfl, by decide +kernel, rfl, by decide +kernel, by decide +kernel⟩
theorem ok__law_times (T : Tx P K mg base a d) : FnG P w K mg base 2 (a i__law_times) (d i__law_times) ["_law_one_z", "_law_other_z"] (sp2 fun x y Q _ => ∃ p q : Rat, x = rD p ∧ y = rD q ∧ Nb 3900 p ∧ Nb 3900 q ∧ Q (.d (rD (p * q)))) := by
  have G__law_low : FnG P w K mg base 1 (a i__law_low) (d i__law_low) ["_law_top", "_law_bottom"] (sp2 fun x y Q _ => ∃ n m : Int, x = .int n ∧ y = .int m ∧ 0 < m ∧ m.natAbs < 2 ^ 8000 ∧ Q (.d (rD (Rat.divInt n m)))) := ok__law_low T
  refine fn2_of T.F__law_times sc__law_times (fun cdv A outer s H E hr hg => (ds_one (ds_ret (de_call G__law_low (hr.mono (by decide)) hg (tkOf rfl rfl rfl rfl) (B__law_low_2 T) (by rfl) T.m__law_low T.F__law_low.kp (da_cons (de_mul (de_ix ix_seq sem_ix (de_see (pv 0)) de_int (fun _ _ => rfl)) (de_ix ix_seq sem_ix (de_see (pv 1)) de_int (fun _ _ => rfl))) (da_cons (de_mul (de_ix ix_seq sem_ix (de_see (pv 0)) de_int (fun _ _ => rfl)) (de_ix ix_seq sem_ix (de_see (pv 1)) de_int (fun _ _ => rfl))) da_nil)))))) (fun x y Q E h => ?_)
  replace h : ∃ p q : Rat, x = rD p ∧ y = rD q ∧ Nb 3900 p ∧ Nb 3900 q ∧ Q (.d (rD (p * q))) := h
  obtain ⟨p, q, rfl, rfl, hp, hq, h⟩ := h
  refine l_ixT rfl (l_ixT rfl (l_mulI (mulW hp.n hq.n (by decide)) ?_))
  refine l_ixT rfl (l_ixT rfl (l_mulI (mulW (nbd hp) (nbd hq) (by decide)) ?_))
  refine ⟨rfl, rfl, _, _, rfl, _, _, rfl, rfl, Int.mul_pos (den_pos p) (den_pos q), den_bits hp hq, ?_⟩
  rw [rat_mul]; exact h

/-! ### _law_less -/
abbrev n__law_less : List Str := ["_law_one_z", "_law_other_z"]
theorem sc__law_less : FnScope n__law_less ["_law_one_z", "_law_other_z"] (defScope s__law_less) := ⟨rfl, rfl, rfl, by decide +kernel, rfl, by decide +kernel, by decide +kernel⟩
theorem ok__law_less (T : Tx P K mg base a d) : FnG P w K mg base 1 (a i__law_less) (d i__law_less) ["_law_one_z", "_law_other_z"] (sp2 fun x y Q _ => ∃ p q : Rat, x = rD p ∧ y = rD q ∧ Nb 3900 p ∧ Nb 3900 q ∧ Q (.d (.bl (decide (p < q))))) := by
  refine fn2_of T.F__law_less sc__law_less (fun cdv A outer s H E hr hg => (ds_one (ds_ret (de_cmp op_lt (sem_intR0 fun _ _ _ => .bl _) (de_mul (de_ix ix_seq sem_ix (de_see (pv 0)) de_int (fun _ _ => rfl)) (de_ix ix_seq sem_ix (de_see (pv 1)) de_int (fun _ _ => rfl))) (de_mul (de_ix ix_seq sem_ix (de_see (pv 1)) de_int (fun _ _ => rfl)) (de_ix ix_seq sem_ix (de_see (pv 0)) de_int (fun _ _ => rfl))) (nomark _))))) (fun x y Q E h => ?_)
  replace h : ∃ p q : Rat, x = rD p ∧ y = rD q ∧ Nb 3900 p ∧ Nb 3900 q ∧ Q (.d (.bl (decide (p < q)))) := h
  obtain ⟨p, q, rfl, rfl, hp, hq, h⟩ := h
  refine l_ixT rfl (l_ixT rfl (l_mulI (mulW hp.n (nbd hq) (by decide)) ?_))
  refine l_ixT rfl (l_ixT rfl (l_mulI (mulW hq.n (nbd hp) (by decide)) ?_))
  refine l_int0 ?_
  rw [rat_lt]; exact h

/-! ### _law_wide -/
abbrev n__law_wide : List Str := ["_law_src"]
theorem sc__law_wide : FnScope n__law_wide ["_law_src"] (defScope s__law_wide) := ⟨rfl, rfl, rfl, by decide +kernel, rfl, by decide +kernel, by decide +kernel⟩
theorem ok__law_wide (T : Tx P K mg base a d) : FnG P w K mg base 2 (a i__law_wide) (d i__law_wide) ["_law_src"] (sr0 fun Q _ => ∀ q : Rat, q.num.natAbs < 10 ^ 19 → q.den < 10 ^ 19 → Q (.d (rD q))) := by
  have G__law_draw : FnG P w K mg base 1 (a i__law_draw) (d i__law_draw) ["_law_src", "_law_many"] (spDraw) := ok__law_draw T
  have G__law_low : FnG P w K mg base 1 (a i__law_low) (d i__law_low) ["_law_top", "_law_bottom"] (sp2 fun x y Q _ => ∃ n m : Int, x = .int n ∧ y = .int m ∧ 0 < m ∧ m.natAbs < 2 ^ 8000 ∧ Q (.d (rD (Rat.divInt n m)))) := ok__law_low T
  refine gn0_of T.F__law_wide sc__law_wide (fun cdv A outer s H E hr hg => (ds_cons (ds_if (dt_cmp op_gt (sem_intR0 fun _ _ _ => .bl _) (de_call G__law_draw (hr.mono (by decide)) hg (tkOf rfl rfl rfl rfl) (B__law_draw_2 T) (by rfl) T.m__law_draw T.F__law_draw.kp (da_cons (de_var (pv 0)) (da_cons de_int da_nil))) de_int (nomark _)) (ds_one (ds_ret (de_call G__law_low (hr.mono (by decide)) hg (tkOf rfl rfl rfl rfl) (B__law_low_2 T) (by rfl) T.m__law_low T.F__law_low.kp (da_cons (de_sub (de_call G__law_draw (hr.mono (by decide)) hg (tkOf rfl rfl rfl rfl) (B__law_draw_2 T) (by rfl) T.m__law_draw T.F__law_draw.kp (da_cons (de_var (pv 0)) (da_cons de_int da_nil))) de_int) (da_cons (de_add de_int (de_call G__law_draw (hr.mono (by decide)) hg (tkOf rfl rfl rfl rfl) (B__law_draw_2 T) (by rfl) T.m__law_draw T.F__law_draw.kp (da_cons (de_var (pv 0)) (da_cons de_int da_nil)))) da_nil))))) ds_nil)
      (ds_one (ds_ret (de_call G__law_low (hr.mono (by decide)) hg (tkOf rfl rfl rfl rfl) (B__law_low_2 T) (by rfl) T.m__law_low T.F__law_low.kp (da_cons (de_sub (de_call G__law_draw (hr.mono (by decide)) hg (tkOf rfl rfl rfl rfl) (B__law_draw_2 T) (by rfl) T.m__law_draw T.F__law_draw.kp (da_cons (de_var (pv 0)) (da_cons (de_pow de_int de_int) da_nil))) (de_pow de_int de_int)) (da_cons (de_add de_int (de_call G__law_draw (hr.mono (by decide)) hg (tkOf rfl rfl rfl rfl) (B__law_draw_2 T) (by rfl) T.m__law_draw T.F__law_draw.kp (da_cons (de_var (pv 0)) (da_cons (de_pow de_int de_int) da_nil)))) da_nil))))))) (fun Q E h => ?_)
  replace h : ∀ q : Rat, q.num.natAbs < 10 ^ 19 → q.den < 10 ^ 19 → Q (.d (rD q)) := h
  refine seq_cutN True (fun N hN => ?_) (fun _ => ?_)
  · refine ⟨rfl, rfl, _, rfl, by decide, by decide, fun k k0 k1 => ?_⟩
    refine l_int0 ?_
    refine br (fun _ => ?_) (fun _ => hN trivial)
    refine ⟨rfl, rfl, _, rfl, by decide, by decide, fun n n0 n1 => l_int0 ?_⟩
    refine ⟨rfl, rfl, _, rfl, by decide, by decide, fun m m0 m1 => l_addI ?_⟩
    refine ⟨rfl, rfl, _, _, rfl, n - 12, 1 + m, rfl, rfl, by omega, Nat.lt_of_lt_of_le (show (1 + m).natAbs < 2 ^ 40 by omega) (Nat.pow_le_pow_right (by decide) (by decide)), ?_⟩
    obtain ⟨g1, g2⟩ := div_bd (n := n - 12) (m := 1 + m) (by omega)
    exact h _ (by omega) (by omega)
  refine l_int1 ⟨by decide, by decide, by decide⟩ ?_
  refine ⟨rfl, rfl, _, rfl, by decide, by decide, fun n n0 n1 => ?_⟩
  refine l_int1 ⟨by decide, by decide, by decide⟩ ?_
  refine l_int0 ?_
  refine l_int1 ⟨by decide, by decide, by decide⟩ ?_
  refine ⟨rfl, rfl, _, rfl, by decide, by decide, fun m m0 m1 => l_addI ?_⟩
  have n1' : n < 1000000000000000000 := n1
  have m1' : m < 1000000000000000000 := m1
  have e17 : ((10 : Int) ^ (17 : Int).toNat) = 100000000000000000 := rfl
  rw [e17]
  refine ⟨rfl, rfl, _, _, rfl, n - 100000000000000000, 1 + m, rfl, rfl, by omega, Nat.lt_of_lt_of_le (show (1 + m).natAbs < 2 ^ 64 by omega) (Nat.pow_le_pow_right (by decide) (by decide)), ?_⟩
  obtain ⟨g1, g2⟩ := div_bd (n := n - 100000000000000000) (m := 1 + m) (by omega)
  exact h _ (by omega) (by omega)

/-! ### _law_bare -/
abbrev n__law_bare : List Str := ["_law_src", "_law_one_z"]
theorem sc__law_bare : FnScope n__law_bare ["_law_src", "_law_one_z"] (defScope s__law_bare) := ⟨rfl, rfl, rfl, by decide +kernel, rfl, by decide +kernel, by decide +kernel⟩
theorem ok__law_bare (T : Tx P K mg base a d) : FnG P w K mg base 2 (a i__law_bare) (d i__law_bare) ["_law_src", "_law_one_z"] (sr1 fun x Q _ => ∃ q : Rat, x = rD q ∧ ∀ v : Vl, v.q = q → (v.bare = true → rD v.q = rt v.q.num 1) → Q (.d v.d)) := by
  have G__law_draw : FnG P w K mg base 1 (a i__law_draw) (d i__law_draw) ["_law_src", "_law_many"] (spDraw) := ok__law_draw T
  refine gn1_of T.F__law_bare sc__law_bare (fun cdv A outer s H E hr hg => (ds_one (ds_ret (de_ifE (DW.dt (dw_and (dt_cmp (op_eqAll hr.units) sem_eq (de_ix ix_seq sem_ix (de_see (pv 1)) de_int (fun _ _ => rfl)) de_int (nomark _)) (dw_and1 (dt_cmp (op_eqAll hr.units) sem_eq (de_call G__law_draw (hr.mono (by decide)) hg (tkOf rfl rfl rfl rfl) (B__law_draw_2 T) (by rfl) T.m__law_draw T.F__law_draw.kp (da_cons (de_var (pv 0)) (da_cons de_int da_nil))) de_int (nomark _))))) (de_ix ix_seq sem_ix (de_see (pv 1)) de_int (fun _ _ => rfl)) (de_var (pv 1)))))) (fun x Q E h => ?_)
  replace h : ∃ q : Rat, x = rD q ∧ ∀ v : Vl, v.q = q → (v.bare = true → rD v.q = rt v.q.num 1) → Q (.d v.d) := h
  obtain ⟨q, rfl, h⟩ := h
  have h1 : Q (.d (rD q)) := h ⟨q, false⟩ rfl (fun e => by cases e)
  have h2 : rD q = rt q.num 1 → Q (.d (.int q.num)) := fun e => h ⟨q, true⟩ rfl (fun _ => e)
  refine l_ixT rfl ?_
  refine l_eqI ?_
  refine br (fun z => ?_) (fun _ => ?_)
  · have e : ((q.den : Nat) : Int) = 1 := of_decide_eq_true z
    refine ⟨rfl, rfl, _, rfl, by decide, by decide, fun k _ _ => ?_⟩
    refine l_eqI ?_
    refine br (fun _ => ?_) (fun _ => h1)
    refine l_ixT rfl ?_
    exact h2 (by unfold rD; rw [e])
  · exact brF h1
end
end K03

set_option Elab.async false
set_option linter.all false
set_option maxRecDepth 100000
set_option maxHeartbeats 4000000
namespace K03
open PySem PySem.Spec PyProof.Rows L2 DL
section
variable {P : Program} {w : World} {K : PySem.W.Frag} {mg : Str → Option Value} {base : Heap} {a : Nat → Addr} {d : Nat → FuncData}
/-! ### sums and products of some values -/
theorem fa2_uniq : ∀ {ds : List D} {ps qs : List Rat}, Vals2 ds ps → Vals2 ds qs → ps = qs
  | _, _, _, .nil, .nil => rfl
  | _, _, _, .cons k t, .cons k' t' => by
    rw [k] at k'; cases k'
    rw [fa2_uniq t t']
theorem pAll_ok {K : PySem.W.Frag} {ok : List Rat → Prop} {v : List Rat → Rat} {ds : List D} {qs : List Rat} {Q : DV → Prop} {E : XE'} (h : Vals2 ds qs) (hk : ∀ d ∈ ds, kindD d = true ∧ pairK d) (hl : ds.length ≤ 1000) (o : ok qs) (q : Q (.d (rD (v qs)))) : pAll K ok v (.tup ds) Q E :=
  ⟨ds, rfl, hk, hl, fun qs' h' => by rw [fa2_uniq h' h]; exact ⟨o, q⟩, fun a d b e _ hn => by
    have := vals_some h d (by rw [e]; simp)
    rw [hn] at this; cases this⟩
theorem first_uniq {p : D → Bool} : ∀ {a a' : List D} {d d' : D} {b b' : List D}, a ++ d :: b = a' ++ d' :: b' → (∀ e ∈ a, p e = true) → (∀ e ∈ a', p e = true) → p d = false → p d' = false → d = d'
  | [], [], _, _, _, _, h, _, _, _, _ => by cases h; rfl
  | [], x :: a', _, _, _, _, h, _, h2, h3, _ => by
    cases h
    rw [h2 _ (List.mem_cons_self ..)] at h3; cases h3
  | x :: a, [], _, _, _, _, h, h1, _, _, h4 => by
    cases h
    rw [h1 _ (List.mem_cons_self ..)] at h4; cases h4
  | x :: a, y :: a', _, _, _, _, h, h1, h2, h3, h4 => by
    simp only [List.cons_append, List.cons.injEq] at h
    exact first_uniq h.2 (fun e he => h1 e (List.mem_cons_of_mem _ he)) (fun e he => h2 e (List.mem_cons_of_mem _ he)) h3 h4
theorem vals_all : ∀ {ds : List D} {qs : List Rat}, Vals2 ds qs → ds.all (fun e => (ratOf e).isSome) = true
  | _, _, .nil => rfl
  | _, _, .cons k t => by rw [List.all_cons, k, vals_all t]; rfl
theorem pAll_no {K : PySem.W.Frag} {ok : List Rat → Prop} {v : List Rat → Rat} {a b : List D} {d : D} {Q : DV → Prop} {E : XE'} (hk : ∀ e ∈ a ++ d :: b, kindD e = true ∧ pairK e) (hl : (a ++ d :: b).length ≤ 1000) (ha : ∀ e ∈ a, (ratOf e).isSome = true) (hd : ratOf d = none) (q : E (.ref (He.ga K "InvalidRatio")) (xd_InvalidRatio d)) : pAll K ok v (.tup (a ++ d :: b)) Q E :=
  ⟨_, rfl, hk, hl, (fun qs' h' => by
    have := vals_some h' d (by simp)
    rw [hd] at this; cases this), fun a' d' b' e ha' hd' => by
    have := first_uniq (p := fun e => (ratOf e).isSome) e ha ha' (by rw [hd]; rfl) (by rw [hd']; rfl)
    subst this
    exact q⟩
theorem add_ok {B : Nat} : ∀ (qs : List Rat) {s : Rat} {C : Nat}, (∀ q ∈ qs, Nb B q) → Nb C s → C + (B + 1) * qs.length ≤ 3000 → B ≤ 3000 → AddOk qs s ∧ Nb (C + (B + 1) * qs.length) (addL qs s)
  | [], s, C, _, h2, _, _ => ⟨trivial, h2⟩
  | q :: r, s, C, h1, h2, h3, h4 => by
    rw [List.length_cons, Nat.mul_succ] at h3 ⊢
    have hb := h1 q (List.mem_cons_self ..)
    obtain ⟨i1, i2⟩ := add_ok r (s := s + q) (C := C + B + 1) (fun x hx => h1 x (List.mem_cons_of_mem _ hx)) (nb_add h2 hb) (by omega) h4
    exact ⟨⟨h2.mono (by omega), hb.mono (by omega), i1⟩, i2.mono (by omega)⟩
theorem mul_ok {B : Nat} : ∀ (qs : List Rat) {s : Rat} {C : Nat}, (∀ q ∈ qs, Nb B q) → Nb C s → C + (B + 1) * qs.length ≤ 3000 → B ≤ 3000 → MulOkL qs s ∧ Nb (C + (B + 1) * qs.length) (mulL qs s)
  | [], s, C, _, h2, _, _ => ⟨trivial, h2⟩
  | q :: r, s, C, h1, h2, h3, h4 => by
    rw [List.length_cons, Nat.mul_succ] at h3 ⊢
    have hb := h1 q (List.mem_cons_self ..)
    obtain ⟨i1, i2⟩ := mul_ok r (s := s * q) (C := C + B + 1) (fun x hx => h1 x (List.mem_cons_of_mem _ hx)) ((nb_mul h2 hb).mono (by omega)) (by omega) h4
    exact ⟨⟨h2.mono (by omega), hb.mono (by omega), i1⟩, i2.mono (by omega)⟩
theorem nb_one : Nb 1 (1 : Rat) := ⟨by decide, by decide⟩
theorem nb_dec {q : Rat} {B k : Nat} (h : Nb B q) (hk : 2 ^ B ≤ 10 ^ k) : q.num.natAbs < 10 ^ k ∧ q.den < 10 ^ k := ⟨Nat.lt_of_lt_of_le h.n hk, Nat.lt_of_lt_of_le h.d hk⟩
/-! ### _law_total -/
abbrev n__law_total : List Str := ["_law_pairs", "_law_found", "_law_pair"]
theorem sc__law_total : FnScope n__law_total ["_law_pairs"] (defScope s__law_total) := ⟨rfl, rfl, rfl, by decide +kernel, rfl, by decide +kernel, by decide +kernel⟩
theorem ok__law_total (T : Tx P K mg base a d) : FnG P w K mg base 3 (a i__law_total) (d i__law_total) ["_law_pairs"] (sp1 fun x Q _ => ∃ qs : List Rat, x = .lst (qs.map rD) ∧ AddOk qs 0 ∧ Q (.d (rD (addL qs 0)))) := by
  have G__law_plus : FnG P w K mg base 2 (a i__law_plus) (d i__law_plus) ["_law_one_z", "_law_other_z"] (sp2 fun x y Q _ => ∃ p q : Rat, x = rD p ∧ y = rD q ∧ Nb 3900 p ∧ Nb 3900 q ∧ Q (.d (rD (p + q)))) := ok__law_plus T
  refine fn1_of T.F__law_total sc__law_total (fun cdv A outer s H E hr hg => (ds_cons (ds_set (i := 1) sc__law_total.nd rfl (Or.inl rfl) (de_tup (da_cons de_int (da_cons de_int da_nil))))
      (ds_cons (ds_for (passes_of rfl) rfl (di_any (de_var (pv 0))) (dg_name (i := 2) sc__law_total.nd rfl (Or.inl rfl)) (ds_one (ds_set (i := 1) sc__law_total.nd rfl (Or.inl rfl) (de_call G__law_plus (hr.mono (by decide)) hg (tkOf rfl rfl rfl rfl) (B__law_plus_2 T) (by rfl) T.m__law_plus T.F__law_plus.kp (da_cons (de_var (pv 1)) (da_cons (de_var (pv 2)) da_nil))))))
      (ds_one (ds_ret (de_var (pv 1))))))) (fun x Q E h => ?_)
  replace h : ∃ qs : List Rat, x = .lst (qs.map rD) ∧ AddOk qs 0 ∧ Q (.d (rD (addL qs 0))) := h
  obtain ⟨qs, rfl, ok, h⟩ := h
  refine set_st (l_tup rfl rfl (set_go (s' := [some (.d (.lst (qs.map rD))), some (.d (rD 0)), none]) rfl ?_))
  refine seq_cut (fun s => ∃ u, s = [some (.d (.lst (qs.map rD))), some (.d (rD (addL qs 0))), u]) (fun N hN => ?_) (fun s hs => ?_)
  · refine l_iterL ?_
    refine forL_ind (fun r s => ∃ (t : List Rat) (y : Rat) (u : Option DV), r = t.map rD ∧ AddOk t y ∧ addL t y = addL qs 0 ∧ s = [some (.d (.lst (qs.map rD))), some (.d (rD y)), u]) (fun N' d r s hN' hs => ?_) (fun s hs => ?_) _ _ ⟨qs, 0, _, rfl, ok, rfl, rfl⟩
    · obtain ⟨t, y, u, er, aok, eq, rfl⟩ := hs
      cases t with
      | nil => cases er
      | cons q t =>
        cases er
        obtain ⟨b1, b2, b3⟩ := aok
        exact ⟨rfl, rfl, _, _, rfl, y, q, rfl, rfl, b1, b2, hN' _ ⟨t, y + q, _, rfl, b3, eq, rfl⟩⟩
    · obtain ⟨t, y, u, er, aok, eq, rfl⟩ := hs
      cases t with
      | nil =>
        have eq : y = addL qs 0 := eq
        subst eq
        exact hN _ ⟨_, rfl⟩
      | cons q t => cases er
  obtain ⟨u, rfl⟩ := hs
  exact h
/-! ### _law_sum_and_product -/
abbrev n__law_sum_and_product : List Str := ["_law_some"]
theorem sc__law_sum_and_product : FnScope n__law_sum_and_product ["_law_some"] (defScope s__law_sum_and_product) := ⟨rfl, rfl, rfl, by decide +kernel, rfl, by decide +kernel, by decide +kernel⟩
theorem ok__law_sum_and_product (T : Tx P K mg base a d) : FnG P w K mg base 6 (a i__law_sum_and_product) (d i__law_sum_and_product) ["_law_some"] (sp1 fun x Q _ => ∃ (ds : List D) (qs : List Rat), x = .lst ds ∧ Vals2 ds qs ∧ (∀ d ∈ ds, kindD d = true ∧ pairK d) ∧ ds.length ≤ 3 ∧ AddOk qs 0 ∧ MulOkL qs 1 ∧ Q (.own (.lst [rD (addL qs 0), rD (mulL qs 1)]))) := by
  have G_added : FnV P w K mg base 5 (a i_added) (spV 0 (fun args Q E => ∃ x : D, args = [.d x] ∧ (pAll K (fun qs => AddOk qs 0) (fun qs => addL qs 0) x Q E))) := ok_added T
  have G_multiplied : FnV P w K mg base 5 (a i_multiplied) (spV 0 (fun args Q E => ∃ x : D, args = [.d x] ∧ (pAll K (fun qs => MulOkL qs 1) (fun qs => mulL qs 1) x Q E))) := ok_multiplied T
  refine fn1_of T.F__law_sum_and_product sc__law_sum_and_product (fun cdv A outer s H E hr hg => (ds_cons (ds_if (dt_cmp (op_eqAll hr.units) sem_eq (de_callB call_len sem_len (by rfl) T.n_len PySem.boot_len (da_cons (de_see (pv 0)) da_nil)) de_int (nomark _)) (ds_one (ds_ret (de_lst (da_cons (de_callV0 G_added (hr.mono (by decide)) hg (tkOf rfl rfl rfl rfl) (by rfl) T.m_added T.F_added.kp) (da_cons (de_callV0 G_multiplied (hr.mono (by decide)) hg (tkOf rfl rfl rfl rfl) (by rfl) T.m_multiplied T.F_multiplied.kp) da_nil))))) ds_nil)
      (ds_cons (ds_if (dt_cmp (op_eqAll hr.units) sem_eq (de_callB call_len sem_len (by rfl) T.n_len PySem.boot_len (da_cons (de_see (pv 0)) da_nil)) de_int (nomark _)) (ds_one (ds_ret (de_lst (da_cons (de_callV G_added (hr.mono (by decide)) hg (tkOf rfl rfl rfl rfl) (by rfl) T.m_added T.F_added.kp (da_cons (de_ix ix_seq sem_ix (de_see (pv 0)) de_int (fun _ _ => rfl)) da_nil)) (da_cons (de_callV G_multiplied (hr.mono (by decide)) hg (tkOf rfl rfl rfl rfl) (by rfl) T.m_multiplied T.F_multiplied.kp (da_cons (de_ix ix_seq sem_ix (de_see (pv 0)) de_int (fun _ _ => rfl)) da_nil)) da_nil))))) ds_nil)
      (ds_cons (ds_if (dt_cmp (op_eqAll hr.units) sem_eq (de_callB call_len sem_len (by rfl) T.n_len PySem.boot_len (da_cons (de_see (pv 0)) da_nil)) de_int (nomark _)) (ds_one (ds_ret (de_lst (da_cons (de_callV G_added (hr.mono (by decide)) hg (tkOf rfl rfl rfl rfl) (by rfl) T.m_added T.F_added.kp (da_cons (de_ix ix_seq sem_ix (de_see (pv 0)) de_int (fun _ _ => rfl)) (da_cons (de_ix ix_seq sem_ix (de_see (pv 0)) de_int (fun _ _ => rfl)) da_nil))) (da_cons (de_callV G_multiplied (hr.mono (by decide)) hg (tkOf rfl rfl rfl rfl) (by rfl) T.m_multiplied T.F_multiplied.kp (da_cons (de_ix ix_seq sem_ix (de_see (pv 0)) de_int (fun _ _ => rfl)) (da_cons (de_ix ix_seq sem_ix (de_see (pv 0)) de_int (fun _ _ => rfl)) da_nil))) da_nil))))) ds_nil)
      (ds_one (ds_ret (de_lst (da_cons (de_callV G_added (hr.mono (by decide)) hg (tkOf rfl rfl rfl rfl) (by rfl) T.m_added T.F_added.kp (da_cons (de_ix ix_seq sem_ix (de_see (pv 0)) de_int (fun _ _ => rfl)) (da_cons (de_ix ix_seq sem_ix (de_see (pv 0)) de_int (fun _ _ => rfl)) (da_cons (de_ix ix_seq sem_ix (de_see (pv 0)) de_int (fun _ _ => rfl)) da_nil)))) (da_cons (de_callV G_multiplied (hr.mono (by decide)) hg (tkOf rfl rfl rfl rfl) (by rfl) T.m_multiplied T.F_multiplied.kp (da_cons (de_ix ix_seq sem_ix (de_see (pv 0)) de_int (fun _ _ => rfl)) (da_cons (de_ix ix_seq sem_ix (de_see (pv 0)) de_int (fun _ _ => rfl)) (da_cons (de_ix ix_seq sem_ix (de_see (pv 0)) de_int (fun _ _ => rfl)) da_nil)))) da_nil))))))))) (fun x Q E h => ?_)
  replace h : ∃ (ds : List D) (qs : List Rat), x = .lst ds ∧ Vals2 ds qs ∧ (∀ d ∈ ds, kindD d = true ∧ pairK d) ∧ ds.length ≤ 3 ∧ AddOk qs 0 ∧ MulOkL qs 1 ∧ Q (.own (.lst [rD (addL qs 0), rD (mulL qs 1)])) := h
  obtain ⟨ds, qs, rfl, hv, hk, hl, ha, hm, h⟩ := h
  have key : ∀ {ok : List Rat → Prop} {v : List Rat → Rat} {Q' : DV → Prop} {E' : XE'} {es : List DV}, es = ds.map DV.d → ok qs → Q' (.d (rD (v qs))) → spV 0 (fun args Q E => ∃ x : D, args = [.d x] ∧ pAll K ok v x Q E) es Q' E' := fun {ok v Q' E' es} e o q =>
    spV_of (as := []) (ds := ds) e rfl (Nat.ble_eq_true_of_le (by have : szl = 16777216 := rfl; omega)) ⟨_, rfl, pAll_ok hv hk (by omega) o q⟩
  rcases ds with _ | ⟨d0, _ | ⟨d1, _ | ⟨d2, _ | ⟨d3, r⟩⟩⟩⟩
  · refine l_lenL rfl (l_eqI (br (fun _ => ?_) (fun z => ?_)))
    · refine key rfl ha (key rfl hm (l_lst rfl rfl h))
    · exact absurd z (by simp)
  · refine l_lenL rfl (l_eqI (br (fun z => ?_) (fun _ => ?_)))
    · exact absurd z (by simp)
    refine l_lenL rfl (l_eqI (br (fun _ => ?_) (fun z => ?_)))
    · refine l_ixL rfl rfl (key rfl ha (l_ixL rfl rfl (key rfl hm (l_lst rfl rfl h))))
    · exact absurd z (by simp)
  · refine l_lenL rfl (l_eqI (br (fun z => ?_) (fun _ => ?_)))
    · exact absurd z (by simp)
    refine l_lenL rfl (l_eqI (br (fun z => ?_) (fun _ => ?_)))
    · exact absurd z (by simp)
    refine l_lenL rfl (l_eqI (br (fun _ => ?_) (fun z => ?_)))
    · refine l_ixL rfl rfl (l_ixL rfl rfl (key rfl ha (l_ixL rfl rfl (l_ixL rfl rfl (key rfl hm (l_lst rfl rfl h))))))
    · exact absurd z (by simp)
  · refine l_lenL rfl (l_eqI (br (fun z => ?_) (fun _ => ?_)))
    · exact absurd z (by simp)
    refine l_lenL rfl (l_eqI (br (fun z => ?_) (fun _ => ?_)))
    · exact absurd z (by simp)
    refine l_lenL rfl (l_eqI (br (fun z => ?_) (fun _ => ?_)))
    · exact absurd z (by simp)
    refine l_ixL rfl rfl (l_ixL rfl rfl (l_ixL rfl rfl (key rfl ha (l_ixL rfl rfl (l_ixL rfl rfl (l_ixL rfl rfl (key rfl hm (l_lst rfl rfl h))))))))
  · simp at hl
end
end K03

set_option Elab.async false
set_option linter.all false
set_option maxRecDepth 100000
set_option maxHeartbeats 4000000
namespace K03
open PySem PySem.Spec PyProof.Rows L2 DL
section
variable {P : Program} {w : World} {K : PySem.W.Frag} {mg : Str → Option Value} {base : Heap} {a : Nat → Addr} {d : Nat → FuncData}
/-! ### law -/
theorem nb64 {q : Rat} (h1 : q.num.natAbs < 10 ^ 19) (h2 : q.den < 10 ^ 19) : Nb 64 q := ⟨Nat.lt_of_lt_of_le h1 (by decide), Nat.lt_of_lt_of_le h2 (by decide)⟩
theorem vl_rat {v : Vl} (h : v.bare = true → rD v.q = rt v.q.num 1) : ratOf v.d = some v.q ∧ kindD v.d = true ∧ pairK v.d := by
  unfold Vl.d
  cases e : v.bare with
  | true =>
    have e1 := den_one (h e)
    refine ⟨?_, rfl, trivial⟩
    show some ((v.q.num : Int) : Rat) = some v.q
    rw [rat_num e1]
  | false => exact ⟨ratOf_rD _, (pl_rD _).kind, (pl_rD _).pair⟩
structure NoR (x : D) : Prop where
  k : kindD x = true ∧ pairK x
  n : ratOf x = none
  s : Sm 20 1 1000 x
abbrev oddL : List D := [.non, .str "1", .tup [.int 2, .int 2], .bl true]
abbrev badL : List D := [.lst [.int 1, .int 1], .tup [.int 1, .int 0], .str "x"]
theorem odd_of {x : D} (h : x ∈ oddL) : NoR x := by
  simp only [oddL, List.mem_cons, List.not_mem_nil, or_false] at h
  rcases h with rfl | rfl | rfl | rfl
  · exact ⟨⟨rfl, trivial⟩, rfl, sm_non.mono (by decide) (by decide)⟩
  · exact ⟨⟨rfl, trivial⟩, rfl, (sm_str (m := 20) (ok_of "1") (by decide)).mono (by decide) (by decide)⟩
  · exact ⟨⟨rfl, rfl, rfl⟩, by decide, (sm_tup (sms_cons (sm_int (i := 2) (by decide)) (sms_cons (sm_int (i := 2) (by decide)) sms_nil))).mono (by decide) (by decide)⟩
  · exact ⟨⟨rfl, trivial⟩, rfl, sm_bl.mono (by decide) (by decide)⟩
theorem bad_of {x : D} (h : x ∈ badL) : NoR x := by
  simp only [badL, List.mem_cons, List.not_mem_nil, or_false] at h
  rcases h with rfl | rfl | rfl
  · exact ⟨⟨rfl, trivial⟩, rfl, (sm_lst (sms_cons (sm_int (i := 1) (by decide)) (sms_cons (sm_int (i := 1) (by decide)) sms_nil))).mono (by decide) (by decide)⟩
  · exact ⟨⟨rfl, rfl, rfl⟩, by decide, (sm_tup (sms_cons (sm_int (i := 1) (by decide)) (sms_cons (sm_int (i := 0) (by decide)) sms_nil))).mono (by decide) (by decide)⟩
  · exact ⟨⟨rfl, trivial⟩, rfl, (sm_str (m := 20) (ok_of "x") (by decide)).mono (by decide) (by decide)⟩
abbrev five : List D := [.int 1, .int 2, .int 3, .int 4, .tup [.int 1, .int 2]]
abbrev fiveQ : List Rat := [1, 2, 3, 4, Rat.divInt 1 2]
theorem five_v : Vals2 five fiveQ := .cons rfl (.cons rfl (.cons rfl (.cons rfl (.cons rfl .nil))))
theorem five_k : ∀ d ∈ five, kindD d = true ∧ pairK d := by
  intro d h
  simp only [five, List.mem_cons, List.not_mem_nil, or_false] at h
  rcases h with rfl | rfl | rfl | rfl | rfl <;> first | exact ⟨rfl, trivial⟩ | exact ⟨rfl, rfl, rfl⟩
theorem five_b : ∀ q ∈ fiveQ, Nb 4 q := by
  intro q h
  simp only [fiveQ, List.mem_cons, List.not_mem_nil, or_false] at h
  rcases h with rfl | rfl | rfl | rfl | rfl <;> exact ⟨by decide +kernel, by decide +kernel⟩
theorem five_s : rD (addL fiveQ 0) = .tup [.int 21, .int 2] := by
  have e : addL fiveQ 0 = Rat.divInt 21 2 := by decide +kernel
  rw [e, rD_of (by decide) (by decide +kernel)]
theorem five_p : rD (mulL fiveQ 1) = .tup [.int 12, .int 1] := by
  have e : mulL fiveQ 1 = Rat.divInt 12 1 := by decide +kernel
  rw [e, rD_of (by decide) (by decide +kernel)]
abbrev n_law : List Str := ["_law_script", "_law_src", "_law_turn", "_law_pairs", "_law_product", "_law_pair", "_law_one_z", "_law_other_z", "_law_odd", "_law_bad", "_law_asks", "_law_k"]
theorem sc_law : FnScope n_law ["_law_script"] (defScope s_law) := ⟨rfl, rfl, rfl, by decide +kernel, rfl, by decide +kernel, by decide +kernel⟩
theorem bi__law_source (T : Tx P K mg base a d) : Binds K (d i__law_source) ["_law_script"] [] := binds_of T.F__law_source fun _ _ _ _ _ _ us hl => match us, hl with | [_], _ => rfl
theorem ok_law (T : Tx P K mg base a d) : FnR P w K mg base 14 (a i_law) (d i_law) ["_law_script"] (spLaw K) := by
  have G__law_bare : FnG P w K mg base 2 (a i__law_bare) (d i__law_bare) ["_law_src", "_law_one_z"] (sr1 fun x Q _ => ∃ q : Rat, x = rD q ∧ ∀ v : Vl, v.q = q → (v.bare = true → rD v.q = rt v.q.num 1) → Q (.d v.d)) := ok__law_bare T
  have G__law_draw : FnG P w K mg base 1 (a i__law_draw) (d i__law_draw) ["_law_src", "_law_many"] (spDraw) := ok__law_draw T
  have G__law_less : FnG P w K mg base 1 (a i__law_less) (d i__law_less) ["_law_one_z", "_law_other_z"] (sp2 fun x y Q _ => ∃ p q : Rat, x = rD p ∧ y = rD q ∧ Nb 3900 p ∧ Nb 3900 q ∧ Q (.d (.bl (decide (p < q))))) := ok__law_less T
  have G__law_of : FnG P w K mg base 2 (a i__law_of) (d i__law_of) ["_law_src", "_law_some"] (spOf) := ok__law_of T
  have G__law_same : FnG P w K mg base 1 (a i__law_same) (d i__law_same) ["_law_found", "_law_due"] (spSame) := ok__law_same T
  have G__law_sum_and_product : FnG P w K mg base 6 (a i__law_sum_and_product) (d i__law_sum_and_product) ["_law_some"] (sp1 fun x Q _ => ∃ (ds : List D) (qs : List Rat), x = .lst ds ∧ Vals2 ds qs ∧ (∀ d ∈ ds, kindD d = true ∧ pairK d) ∧ ds.length ≤ 3 ∧ AddOk qs 0 ∧ MulOkL qs 1 ∧ Q (.own (.lst [rD (addL qs 0), rD (mulL qs 1)]))) := ok__law_sum_and_product T
  have G__law_times : FnG P w K mg base 2 (a i__law_times) (d i__law_times) ["_law_one_z", "_law_other_z"] (sp2 fun x y Q _ => ∃ p q : Rat, x = rD p ∧ y = rD q ∧ Nb 3900 p ∧ Nb 3900 q ∧ Q (.d (rD (p * q)))) := ok__law_times T
  have G__law_total : FnG P w K mg base 3 (a i__law_total) (d i__law_total) ["_law_pairs"] (sp1 fun x Q _ => ∃ qs : List Rat, x = .lst (qs.map rD) ∧ AddOk qs 0 ∧ Q (.d (rD (addL qs 0)))) := ok__law_total T
  have G__law_wide : FnG P w K mg base 2 (a i__law_wide) (d i__law_wide) ["_law_src"] (sr0 fun Q _ => ∀ q : Rat, q.num.natAbs < 10 ^ 19 → q.den < 10 ^ 19 → Q (.d (rD q))) := ok__law_wide T
  have G_added : FnV P w K mg base 5 (a i_added) (spV 0 (fun args Q E => ∃ x : D, args = [.d x] ∧ (pAll K (fun qs => AddOk qs 0) (fun qs => addL qs 0) x Q E))) := ok_added T
  have G_is_less : FnG P w K mg base 5 (a i_is_less) (d i_is_less) ["one", "other"] (sp2 fun x y Q E => pLess K x y Q E) := ok_is_less T
  have G_multiplied : FnV P w K mg base 5 (a i_multiplied) (spV 0 (fun args Q E => ∃ x : D, args = [.d x] ∧ (pAll K (fun qs => MulOkL qs 1) (fun qs => mulL qs 1) x Q E))) := ok_multiplied T
  obtain ⟨cc, hcc, hmem⟩ := lam_mem T.F_law (by decide)
  refine fnRc_of T.F_law sc_law (fun vs H Q E h => ?_) (fun cdv hcd A outer s H vs Q E hr hg h => ?_)
  · obtain ⟨c, ns, rfl, _⟩ := h; rfl
  · obtain ⟨c, ns, rfl, hS, hlen, htb, huq, q⟩ := h
    have hcode : cdv = .ref cc := hcd.symm.trans hcc
    refine ⟨_, pss_cons (ps_set (i := 1) sc_law.nd rfl (Or.inr rfl) (pe_callR (ok__law_source T) (hr.mono (by decide)) hg (by rfl) T.m__law_source T.F__law_source.kp (bi__law_source T) (pa_cons (pv 0) pa_nil)))
      (up_ss (fun cls d _ H => E cls d H) (ds_cons (ds_for (passes_of rfl) rfl (di_rng1 (by rfl) T.n_range (da_cons de_int da_nil)) (dg_name (i := 2) sc_law.nd rfl (Or.inl rfl)) (ds_cons (ds_setLc (i := 3) (own := [("_law_k", 11)]) rfl sc_law.nd rfl rfl (sw_true rfl rfl rfl (by decide +kernel)) (di_rng1 (by rfl) T.n_range (da_cons (de_call G__law_draw (hr.mono (by decide)) hg (tkOf rfl rfl rfl rfl) (B__law_draw_2 T) (by rfl) T.m__law_draw T.F__law_draw.kp (da_cons (de_var (pv 1)) (da_cons de_int da_nil))) da_nil)) (blkOk_by (own := [("_law_k", 11)]) (N := n_law) (sc := (defScope s_law)) (by decide +kernel)) (fun _ _ _ _ _ => (dg_name (i := 11) sc_law.nd rfl (Or.inl rfl))) (fun _ _ _ _ _ => dts_nil) (fun _ _ _ _ _ => (de_call G__law_wide (hr.mono (by decide)) hg takes0 (B__law_wide_1 T) (by rfl) T.m__law_wide T.F__law_wide.kp (da_cons (de_var (pv 1)) da_nil))))
      (ds_cons (ds_set (i := 4) sc_law.nd rfl (Or.inl rfl) (de_tup (da_cons de_int (da_cons de_int da_nil))))
      (ds_cons (ds_for (passes_of rfl) rfl (di_any (de_var (pv 3))) (dg_name (i := 5) sc_law.nd rfl (Or.inl rfl)) (ds_one (ds_set (i := 4) sc_law.nd rfl (Or.inl rfl) (de_call G__law_times (hr.mono (by decide)) hg (tkOf rfl rfl rfl rfl) (B__law_times_2 T) (by rfl) T.m__law_times T.F__law_times.kp (da_cons (de_var (pv 4)) (da_cons (de_var (pv 5)) da_nil))))))
      (ds_cons (ds_if (dt_not (dt_val (de_call G__law_same (hr.mono (by decide)) hg (tkOf rfl rfl rfl rfl) (B__law_same_2 T) (by rfl) T.m__law_same T.F__law_same.kp (da_cons (de_call G__law_sum_and_product (hr.mono (by decide)) hg (tkOf rfl rfl rfl rfl) (B__law_sum_and_product_1 T) (by rfl) T.m__law_sum_and_product T.F__law_sum_and_product.kp (da_cons (de_lc (own := [("_law_pair", 5)]) rfl sc_law.nd (di_any (de_var (pv 3))) (blkOk_by (own := [("_law_pair", 5)]) (N := n_law) (sc := (defScope s_law)) (by decide +kernel)) (fun _ _ _ _ _ => (dg_name (i := 5) sc_law.nd rfl (Or.inl rfl))) (fun _ _ _ _ _ => dts_nil) (fun _ _ _ _ _ => (de_call G__law_bare (hr.mono (by decide)) hg takes0 (B__law_bare_2 T) (by rfl) T.m__law_bare T.F__law_bare.kp (da_cons (de_var (pv 1)) (da_cons (de_var (pv 5)) da_nil))))) da_nil)) (da_cons (de_lst (da_cons (de_call G__law_total (hr.mono (by decide)) hg (tkOf rfl rfl rfl rfl) (B__law_total_1 T) (by rfl) T.m__law_total T.F__law_total.kp (da_cons (de_var (pv 3)) da_nil)) (da_cons (de_var (pv 4)) da_nil))) da_nil))))) (ds_one (ds_ret de_bl)) ds_nil)
      (ds_cons (ds_par (i := 6) (j := 7) rfl sc_law.nd rfl rfl (by decide) rfl rfl (da_cons (de_call G__law_wide (hr.mono (by decide)) hg (tkOf rfl rfl rfl rfl) (B__law_wide_1 T) (by rfl) T.m__law_wide T.F__law_wide.kp (da_cons (de_var (pv 1)) da_nil)) (da_cons (de_call G__law_wide (hr.mono (by decide)) hg (tkOf rfl rfl rfl rfl) (B__law_wide_1 T) (by rfl) T.m__law_wide T.F__law_wide.kp (da_cons (de_var (pv 1)) da_nil)) da_nil)) (by rfl))
      (ds_one (ds_if (dt_not (dt_val (de_call G__law_same (hr.mono (by decide)) hg (tkOf rfl rfl rfl rfl) (B__law_same_2 T) (by rfl) T.m__law_same T.F__law_same.kp (da_cons (de_lst (da_cons (de_call G_is_less (hr.mono (by decide)) hg (tkOf rfl rfl rfl rfl) (B_is_less_2 T) (by rfl) T.m_is_less T.F_is_less.kp (da_cons (de_var (pv 6)) (da_cons (de_var (pv 7)) da_nil))) (da_cons (de_callK0 G_is_less (hr.mono (by decide)) hg (tkOf rfl rfl rfl rfl) (B_is_less_0_other_one T) (by rfl) T.m_is_less T.F_is_less.kp (dk_cons (de_var (pv 6)) (dk_cons (de_var (pv 7)) dk_nil))) (da_cons (de_call G_is_less (hr.mono (by decide)) hg (tkOf rfl rfl rfl rfl) (B_is_less_2 T) (by rfl) T.m_is_less T.F_is_less.kp (da_cons (de_var (pv 6)) (da_cons (de_var (pv 6)) da_nil))) da_nil)))) (da_cons (de_lst (da_cons (de_call G__law_less (hr.mono (by decide)) hg (tkOf rfl rfl rfl rfl) (B__law_less_2 T) (by rfl) T.m__law_less T.F__law_less.kp (da_cons (de_var (pv 6)) (da_cons (de_var (pv 7)) da_nil))) (da_cons (de_call G__law_less (hr.mono (by decide)) hg (tkOf rfl rfl rfl rfl) (B__law_less_2 T) (by rfl) T.m__law_less T.F__law_less.kp (da_cons (de_var (pv 7)) (da_cons (de_var (pv 6)) da_nil))) (da_cons de_bl da_nil)))) da_nil))))) (ds_one (ds_ret de_bl)) ds_nil))))))))
      (ds_cons (ds_asg (de_tup (da_cons (de_call G__law_of (hr.mono (by decide)) hg (tkOf rfl rfl rfl rfl) (B__law_of_2 T) (by rfl) T.m__law_of T.F__law_of.kp (da_cons (de_var (pv 1)) (da_cons (de_lst (da_cons de_non (da_cons de_str (da_cons (de_tup (da_cons de_int (da_cons de_int da_nil))) (da_cons de_bl da_nil))))) da_nil))) (da_cons (de_call G__law_of (hr.mono (by decide)) hg (tkOf rfl rfl rfl rfl) (B__law_of_2 T) (by rfl) T.m__law_of T.F__law_of.kp (da_cons (de_var (pv 1)) (da_cons (de_lst (da_cons (de_lst (da_cons de_int (da_cons de_int da_nil))) (da_cons (de_tup (da_cons de_int (da_cons de_int da_nil))) (da_cons de_str da_nil)))) da_nil))) da_nil))) (dg_tup (n := 2) (K := K) rfl (dgs_cons (dg_name (i := 8) sc_law.nd rfl (Or.inr rfl)) (dgs_cons (dg_name (i := 9) sc_law.nd rfl (Or.inr rfl)) dgs_nil))))
      (ds_cons (ds_set (i := 10) sc_law.nd rfl (Or.inl rfl) (de_lst (da_cons (de_lask T (k := 10) hmem hcode (hr.mono (by decide)) hg (.none rfl rfl (fun _ _ _ _ _ _ _ _ => rfl)) (lamN_by (xs := []) (by decide +kernel)) (fun A outer s H E f c' hr hg => (de_callV G_added (hr.mono (by decide)) hg (tkOf rfl rfl rfl rfl) (by rfl) T.m_added T.F_added.kp (da_cons de_int (da_cons (de_var (pv 8)) (da_cons (de_var (pv 9)) da_nil)))))) (da_cons (de_lask T (k := 10) hmem hcode (hr.mono (by decide)) hg (.one rfl rfl (fun _ _ _ _ _ _ _ _ _ _ => ⟨_, rfl, rfl⟩)) (lamN_by (xs := ["_law_a"]) (by decide +kernel)) (fun A outer s H E f c' hr hg => (de_callV G_multiplied (hr.mono (by decide)) hg (tkOf rfl rfl rfl rfl) (by rfl) T.m_multiplied T.F_multiplied.kp (da_cons (de_var (pv 8)) (da_cons de_int (da_cons (de_var (pv 9)) da_nil)))))) (da_cons (de_lask T (k := 10) hmem hcode (hr.mono (by decide)) hg (.one rfl rfl (fun _ _ _ _ _ _ _ _ _ _ => ⟨_, rfl, rfl⟩)) (lamN_by (xs := ["_law_b"]) (by decide +kernel)) (fun A outer s H E f c' hr hg => (de_call G_is_less (hr.mono (by decide)) hg (tkOf rfl rfl rfl rfl) (B_is_less_2 T) (by rfl) T.m_is_less T.F_is_less.kp (da_cons (de_var (pv 8)) (da_cons (de_var (pv 9)) da_nil))))) (da_cons (de_lask T (k := 10) hmem hcode (hr.mono (by decide)) hg (.one rfl rfl (fun _ _ _ _ _ _ _ _ _ _ => ⟨_, rfl, rfl⟩)) (lamN_by (xs := ["_law_c"]) (by decide +kernel)) (fun A outer s H E f c' hr hg => (de_call G_is_less (hr.mono (by decide)) hg (tkOf rfl rfl rfl rfl) (B_is_less_2 T) (by rfl) T.m_is_less T.F_is_less.kp (da_cons de_int (da_cons (de_var (pv 8)) da_nil))))) da_nil))))))
      (ds_cons (ds_if (dt_not (dt_val (de_call G__law_same (hr.mono (by decide)) hg (tkOf rfl rfl rfl rfl) (B__law_same_2 T) (by rfl) T.m__law_same T.F__law_same.kp (da_cons (de_lst (da_cons (de_callV G_added (hr.mono (by decide)) hg (tkOf rfl rfl rfl rfl) (by rfl) T.m_added T.F_added.kp (da_cons de_int (da_cons de_int (da_cons de_int (da_cons de_int (da_cons (de_tup (da_cons de_int (da_cons de_int da_nil))) da_nil)))))) (da_cons (de_callV G_multiplied (hr.mono (by decide)) hg (tkOf rfl rfl rfl rfl) (by rfl) T.m_multiplied T.F_multiplied.kp (da_cons de_int (da_cons de_int (da_cons de_int (da_cons de_int (da_cons (de_tup (da_cons de_int (da_cons de_int da_nil))) da_nil)))))) da_nil))) (da_cons (de_lst (da_cons (de_tup (da_cons de_int (da_cons de_int da_nil))) (da_cons (de_tup (da_cons de_int (da_cons de_int da_nil))) da_nil))) da_nil))))) (ds_one (ds_ret de_bl)) ds_nil)
      (ds_one (ds_ret (de_and (de_call G__law_same (hr.mono (by decide)) hg (tkOf rfl rfl rfl rfl) (B__law_same_2 T) (by rfl) T.m__law_same T.F__law_same.kp (da_cons (de_var (pv 10)) (da_cons (de_mul (de_lst (da_cons (de_tup (da_cons de_str (da_cons (de_var (pv 8)) da_nil))) da_nil)) de_int) da_nil))) (de_one (de_cmp op_is_bl sem_isB (de_call G_is_less (hr.mono (by decide)) hg (tkOf rfl rfl rfl rfl) (B_is_less_2 T) (by rfl) T.m_is_less T.F_is_less.kp (da_cons (de_neg de_int) (da_cons (de_tup (da_cons (de_neg de_int) (da_cons de_int da_nil))) da_nil))) de_bl (nomark _))))))))))), ?_⟩
    refine ⟨.ref c, rfl, c, ns, rfl, hS, hlen, fun H' p c' ms sd ex cp hp hc hm h0 h1 => ?_⟩
    refine law_up 12 1 rfl rfl q cp hp hc hm h0 h1 (fun q hq => ex _ _ (htb q hq)) huq ?_
    have hz : szl = 16777216 := rfl
    refine seq_cut (fun s => ∃ a2 a3 a4 a5 a6 a7, s = [none, some .src, a2, a3, a4, a5, a6, a7, none, none, none, none]) (fun N' hN' => ?_) (fun s hs => ?_)
    · refine l_rng1 (by decide) (by decide) ?_
      refine forL_inv (fun s => ∃ a2 a3 a4 a5 a6 a7, s = [none, some .src, a2, a3, a4, a5, a6, a7, none, none, none, none]) _ _ ⟨_, _, _, _, _, _, rfl⟩ (fun N d s hN hd hs => ?_) hN'
      obtain ⟨a2, a3, a4, a5, a6, a7, rfl⟩ := hs
      refine set_cutO (s' := [none, some .src, some (.d d), a3, a4, a5, a6, a7, none, none, none, none]) (fun ds => ∃ qs : List Rat, ds = qs.map rD ∧ qs.length ≤ 3 ∧ ∀ q ∈ qs, q.num.natAbs < 10 ^ 19 ∧ q.den < 10 ^ 19) (fun Q hQ => ?_) (fun ds hds => ?_)
      · refine ⟨rfl, rfl, _, rfl, by decide, by decide, fun k k0 k1 => l_rng1 (by omega) (by omega) ?_⟩
        refine lcL_rel (fun x => ∃ q : Rat, x = rD q ∧ (q.num.natAbs < 10 ^ 19 ∧ q.den < 10 ^ 19)) _ ?_ (fun d' hd' M A hM => ?_) (fun xs hl hR => ?_)
        · rw [intsFrom_len]; omega
        · refine brT ?_
          exact ⟨rfl, rfl, rfl, fun q h1 h2 => hM _ ⟨q, rfl, h1, h2⟩⟩
        · rw [intsFrom_len] at hl
          obtain ⟨qs, rfl, hqs⟩ := back_map (f := rD) (P := fun q => q.num.natAbs < 10 ^ 19 ∧ q.den < 10 ^ 19) hR
          rw [List.length_map] at hl
          exact hQ _ ⟨qs, rfl, by omega, hqs⟩
      obtain ⟨qs, rfl, ql, qb⟩ := hds
      have qn : ∀ q ∈ qs, Nb 64 q := fun q hq => nb64 (qb q hq).1 (qb q hq).2
      obtain ⟨sa, sn⟩ := add_ok qs (s := 0) (C := 1) qn nb_zero (by omega) (by decide)
      obtain ⟨pa, pn⟩ := mul_ok qs (s := 1) (C := 1) qn nb_one (by omega) (by decide)
      refine set_st (l_tup rfl rfl (set_go (s' := [none, some .src, some (.d d), some (.own (.lst (qs.map rD))), some (.d (rD 1)), a5, a6, a7, none, none, none, none]) rfl ?_))
      refine seq_cut (fun s => ∃ u, s = [none, some .src, some (.d d), some (.d (.lst (qs.map rD))), some (.d (rD (mulL qs 1))), u, a6, a7, none, none, none, none]) (fun N1 hN1 => ?_) (fun s hs => ?_)
      · refine l_iterL (ds := qs.map rD) ?_
        refine forL_ind (fun r s => ∃ (t : List Rat) (y : Rat) (u : Option DV), r = t.map rD ∧ MulOkL t y ∧ mulL t y = mulL qs 1 ∧ s = [none, some .src, some (.d d), some (.d (.lst (qs.map rD))), some (.d (rD y)), u, a6, a7, none, none, none, none]) (fun N' d r s hN' hs => ?_) (fun s hs => ?_) _ _ ⟨qs, 1, _, rfl, pa, rfl, rfl⟩
        · obtain ⟨t, y, u, er, aok, eq, rfl⟩ := hs
          cases t with
          | nil => cases er
          | cons q t =>
            cases er
            obtain ⟨b1, b2, b3⟩ := aok
            exact ⟨rfl, rfl, _, _, rfl, y, q, rfl, rfl, b1, b2, hN' _ ⟨t, y * q, _, rfl, b3, eq, rfl⟩⟩
        · obtain ⟨t, y, u, er, aok, eq, rfl⟩ := hs
          cases t with
          | nil =>
            have eq : y = mulL qs 1 := eq
            subst eq
            exact hN1 _ ⟨_, rfl⟩
          | cons q t => cases er
      obtain ⟨u, rfl⟩ := hs
      refine chk_cutS (s' := [none, some .src, some (.d d), some (.d (.lst (qs.map rD))), some (.d (rD (mulL qs 1))), none, a6, a7, none, none, none, none]) (fun Q hQ => ?_) ?_
      · refine l_iterL (ds := qs.map rD) ?_
        refine lcL_pair (fun d y => ∃ v : Vl, d = rD v.q ∧ y = v.d ∧ (v.bare = true → rD v.q = rt v.q.num 1)) _ ?_ (fun d' hd' M A hM => ?_) (fun xs fa => ?_)
        · rw [List.length_map]; omega
        · obtain ⟨q, _, rfl⟩ := List.mem_map.mp hd'
          refine brT ?_
          refine ⟨rfl, rfl, _, rfl, q, rfl, fun v ev hb => hM _ ⟨v, by rw [ev], rfl, hb⟩⟩
        · have lx := fa.len
          rw [List.length_map] at lx
          have fv : ∀ {rs : List Rat} {xs : List D}, Fa2 (fun d y => ∃ v : Vl, d = rD v.q ∧ y = v.d ∧ (v.bare = true → rD v.q = rt v.q.num 1)) (rs.map rD) xs → Vals2 xs rs ∧ ∀ x ∈ xs, kindD x = true ∧ pairK x := fun {rs} => by
            induction rs with
            | nil => intro xs h; cases h; exact ⟨.nil, fun _ h => by cases h⟩
            | cons q rs ih =>
              intro xs h
              cases h with
              | cons h1 t =>
                obtain ⟨v, e1, rfl, hb⟩ := h1
                obtain ⟨i1, i2⟩ := ih t
                obtain ⟨r1, r2, r3⟩ := vl_rat hb
                have eq : v.q = q := by
                  have z := ratOf_rD v.q
                  rw [← e1, ratOf_rD] at z
                  exact (Option.some.inj z).symm
                refine ⟨.cons (by rw [r1, eq]) i1, fun x hx => ?_⟩
                rcases List.mem_cons.mp hx with rfl | hx
                · exact ⟨r2, r3⟩
                · exact i2 x hx
          obtain ⟨v1, v2⟩ := fv fa
          refine ⟨rfl, rfl, _, rfl, xs, qs, rfl, v1, v2, by omega, sa, pa, ?_⟩
          refine ⟨rfl, rfl, _, rfl, qs, rfl, sa, ?_⟩
          refine l_lst rfl rfl ⟨rfl, rfl, ?_⟩
          have d1 := nb_dec (k := 100) (sn.mono (show _ ≤ 300 by omega)) (by decide +kernel)
          have d2 := nb_dec (k := 100) (pn.mono (show _ ≤ 300 by omega)) (by decide +kernel)
          exact same_lstS rfl (sms_cons (sm_rat d1.1 d1.2) (sms_cons (sm_rat d2.1 d2.2) sms_nil)) hQ
      refine par_cutS (fun x y => ∃ p q : Rat, x = rD p ∧ y = rD q ∧ Nb 64 p ∧ Nb 64 q) (fun Q hQ => ?_) (fun x y hxy => ?_)
      · refine ⟨rfl, rfl, rfl, fun p h1 h2 => ?_⟩
        refine ⟨rfl, rfl, rfl, fun q h3 h4 => ?_⟩
        exact hQ _ _ ⟨p, q, rfl, rfl, nb64 h1 h2, nb64 h3 h4⟩
      obtain ⟨p, q, rfl, rfl, np, nq⟩ := hxy
      have np' : Nb 3900 p := np.mono (by decide)
      have nq' : Nb 3900 q := nq.mono (by decide)
      have less : ∀ {p q : Rat} {Q : DV → Prop} {E : XE'}, Nb 3900 p → Nb 3900 q → Q (.d (.bl (decide (p < q)))) → pLess K (rD p) (rD q) Q E := fun {p q Q E} h1 h2 h3 =>
        ⟨⟨(pl_rD p).kind, (pl_rD p).pair⟩, ⟨(pl_rD q).kind, (pl_rD q).pair⟩, (fun p' q' e1 e2 => by
          rw [ratOf_rD] at e1 e2; cases e1; cases e2; exact ⟨h1, h2, h3⟩), (fun e => by rw [ratOf_rD] at e; cases e), fun _ _ e => by rw [ratOf_rD] at e; cases e⟩
      refine chk_endS (s' := [none, some .src, some (.d d), some (.d (.lst (qs.map rD))), some (.d (rD (mulL qs 1))), none, some (.d (rD p)), some (.d (rD q)), none, none, none, none]) (fun Q hQ => ?_) (hN _ ⟨_, _, _, _, _, _, rfl⟩)
      refine ⟨rfl, rfl, _, _, rfl, less np' nq' ?_⟩
      refine ⟨rfl, rfl, _, _, rfl, less nq' np' ?_⟩
      refine ⟨rfl, rfl, _, _, rfl, less np' np' ?_⟩
      refine l_lst rfl rfl ?_
      refine ⟨rfl, rfl, _, _, rfl, p, q, rfl, rfl, np', nq', ?_⟩
      refine ⟨rfl, rfl, _, _, rfl, q, p, rfl, rfl, nq', np', ?_⟩
      refine l_lst rfl rfl ⟨rfl, rfl, ?_⟩
      have e0 : decide (p < p) = false := decide_eq_false (Rat.lt_irrefl)
      rw [e0]
      exact same_lstS (b := 20) rfl (sms_cons sm_bl (sms_cons sm_bl (sms_cons sm_bl sms_nil))) hQ
    obtain ⟨a2, a3, a4, a5, a6, a7, rfl⟩ := hs
    refine asg_par (fun x y => NoR x ∧ NoR y) (fun Q hQ => ?_) (fun x y hxy => ?_)
    · refine l_tup rfl rfl (l_lst rfl rfl ?_)
      refine ⟨rfl, rfl, _, rfl, (fun o z => by cases z), (by decide), (by decide), fun x hx => ?_⟩
      refine l_lst rfl rfl (l_tup rfl rfl (l_lst rfl rfl ?_))
      refine ⟨rfl, rfl, _, rfl, (fun o z => by cases z), (by decide), (by decide), fun y hy => ?_⟩
      exact hQ _ _ ⟨odd_of hx, bad_of hy⟩
    obtain ⟨hx, hy⟩ := hxy
    have bl0 : ∀ (Q : DV → Prop) (E : XE') (a b : List D), (∀ e ∈ a, (ratOf e).isSome = true) → (∀ e ∈ a ++ x :: b, kindD e = true ∧ pairK e) → (a ++ x :: b).length ≤ 1000 → E (.ref (He.ga K "InvalidRatio")) (xd_InvalidRatio x) → ∀ (ok : List Rat → Prop) (v : List Rat → Rat), spV 0 (fun args Q E => ∃ x : D, args = [.d x] ∧ pAll K ok v x Q E) ((a ++ x :: b).map DV.d) Q E := fun Q E a b h1 h2 h3 h4 ok v =>
      spV_of (as := []) rfl rfl (Nat.ble_eq_true_of_le (by omega)) ⟨_, rfl, pAll_no h2 h3 h1 hx.n h4⟩
    have ki : ∀ i : Int, kindD (.int i) = true ∧ pairK (.int i) := fun i => ⟨rfl, trivial⟩
    refine set_cutL (List.replicate 4 (.tup [.str "InvalidRatio", x])) (fun Q hQ => ?_) ?_
    · refine bl0 _ _ [.int 1] [y] (fun e he => by rw [List.mem_singleton.mp he]; rfl) (fun e he => by
        simp only [List.cons_append, List.nil_append, List.mem_cons, List.not_mem_nil, or_false] at he
        rcases he with rfl | rfl | rfl
        · exact ki 1
        · exact hx.k
        · exact hy.k) (by simp) ?_ _ _
      refine ⟨_, "InvalidRatio", [x], rfl, T.xe_InvalidRatio, rfl, rfl, ?_⟩
      refine bl0 _ _ [] [.int 2, y] (fun e he => by cases he) (fun e he => by
        simp only [List.nil_append, List.mem_cons, List.not_mem_nil, or_false] at he
        rcases he with rfl | rfl | rfl
        · exact hx.k
        · exact ki 2
        · exact hy.k) (by simp) ?_ _ _
      refine ⟨_, "InvalidRatio", [x], rfl, T.xe_InvalidRatio, rfl, rfl, ?_⟩
      refine ⟨rfl, rfl, _, _, rfl, hx.k, hy.k, (fun p q e _ => by rw [hx.n] at e; cases e), (fun _ => ?_), (fun p e => by rw [hx.n] at e; cases e)⟩
      refine ⟨_, "InvalidRatio", [x], rfl, T.xe_InvalidRatio, rfl, rfl, ?_⟩
      refine ⟨rfl, rfl, _, _, rfl, ki 2, hx.k, (fun p q _ e => by rw [hx.n] at e; cases e), (fun e => by cases e), (fun p _ _ => ?_)⟩
      refine ⟨_, "InvalidRatio", [x], rfl, T.xe_InvalidRatio, rfl, rfl, ?_⟩
      exact l_lst rfl rfl hQ
    refine chk_cutS (s' := [none, some .src, a2, a3, a4, a5, a6, a7, some (.d x), some (.d y), some (.own (.lst (List.replicate 4 (.tup [.str "InvalidRatio", x])))), none]) (fun Q hQ => ?_) ?_
    · obtain ⟨k1, _⟩ := add_ok fiveQ (s := 0) (C := 1) five_b nb_zero (by decide) (by decide)
      obtain ⟨k2, _⟩ := mul_ok fiveQ (s := 1) (C := 1) five_b nb_one (by decide) (by decide)
      have vals : ∀ {ok : List Rat → Prop} {v : List Rat → Rat} {Q' : DV → Prop} {E' : XE'}, ok fiveQ → Q' (.d (rD (v fiveQ))) → spV 0 (fun args Q E => ∃ x : D, args = [.d x] ∧ pAll K ok v x Q E) (five.map DV.d) Q' E' := fun {ok v Q' E'} o q =>
        spV_of (as := []) (ds := five) rfl rfl rfl ⟨_, rfl, pAll_ok five_v five_k (by decide) o q⟩
      refine l_tup rfl rfl ?_
      refine vals k1 ?_
      refine l_tup rfl rfl ?_
      refine vals k2 ?_
      rw [five_s, five_p]
      refine l_lst rfl rfl (l_tup rfl rfl (l_tup rfl rfl (l_lst rfl rfl ⟨rfl, rfl, ?_⟩)))
      refine same_lstS (b := 20) rfl (sms_cons (sm_tup (sms_cons (sm_int (by decide)) (sms_cons (sm_int (by decide)) sms_nil))) (sms_cons (sm_tup (sms_cons (sm_int (by decide)) (sms_cons (sm_int (by decide)) sms_nil))) sms_nil)) hQ
    refine l_tup rfl rfl (l_lst rfl rfl ?_)
    refine l_mulL (ds := [.tup [.str "InvalidRatio", x]]) rfl (by decide) (by decide) (by show 1 * 4 ≤ szl; decide) ?_
    refine ⟨rfl, rfl, ?_⟩
    have f1 : Sm 20 2 1200 (.tup [.str "InvalidRatio", x]) := (sm_tup (sms_cons (sm_str (m := 12) (ok_of "InvalidRatio") (by decide)) (sms_cons hx.s sms_nil))).mono (by decide) (by decide)
    refine same_lstS (es := [.tup [.str "InvalidRatio", x], .tup [.str "InvalidRatio", x], .tup [.str "InvalidRatio", x], .tup [.str "InvalidRatio", x]]) rfl (sms_cons f1 (sms_cons f1 (sms_cons f1 (sms_cons f1 sms_nil)))) ?_
    refine brT ?_
    refine l_neg (l_neg (l_tup rfl rfl ?_))
    refine ⟨rfl, rfl, _, _, rfl, ki (-1), ⟨rfl, rfl, rfl⟩, (fun p q e1 e2 => ?_), (fun e => by cases e), (fun p _ e => by
      have : (ratOf (.tup [.int (-1), .int 2])).isSome = true := by decide
      rw [e] at this; cases this)⟩
    have e3 : ratOf (.tup [.int (-1), .int 2]) = some (Rat.divInt (-1) 2) := rfl
    rw [e3] at e2
    cases e1; cases e2
    refine ⟨⟨by decide +kernel, by decide +kernel⟩, ⟨by decide +kernel, by decide +kernel⟩, ?_⟩
    have e4 : decide (((-1 : Int) : Rat) < Rat.divInt (-1) 2) = true := by decide +kernel
    rw [e4]
    exact l_isB rfl
end
end K03

set_option Elab.async false
set_option linter.all false
set_option maxRecDepth 100000
set_option maxHeartbeats 4000000
namespace K03
open PySem PySem.Spec PyProof.Rows L2 DL
section
variable {P : Program} {w : World} {K : PySem.W.Frag} {mg : Str → Option Value} {base : Heap} {a : Nat → Addr} {d : Nat → FuncData}
theorem xt_InvalidRatio : ExT (defBody sx_InvalidRatio) (defArgs sx_InvalidRatio) (defScope sx_InvalidRatio) "self" ["given"] xf_InvalidRatio where
  shape := ⟨_, _, _, _, _, _, _, _, _, rfl, (.con (fun _ => rfl) (.var (fun _ => rfl) (by decide) .nil)), fun _ => ⟨_, rfl⟩, fun env h => by unfold interactive; simp [Env.blockKind, h] <;> rfl, fun _ => rfl⟩
  head := ⟨_, rfl, rfl⟩
  ks := by decide +kernel
  kc := by decide +kernel
  loc := by decide +kernel
  kind := rfl
  co := rfl
  gen := rfl
  cell := by decide +kernel
  flds := by intro f hf x hx; simp at hf; first | (subst hf; cases hx; simp) | (rcases hf with rfl | rfl <;> cases hx <;> simp) | (rcases hf with rfl | rfl | rfl <;> cases hx <;> simp) | (rcases hf with rfl | rfl | rfl | rfl <;> cases hx <;> simp)
  nod := by decide +kernel
  sd := by decide
  len := by decide
theorem xb_InvalidRatio (e : Addr) (us : List Value) (hl : us.length = (["given"] : List Str).length) (name qual : Str) (doc pm : Value) (an : Option Addr) (cda ct : Value) (cc : Addr) : bindArgs (PySem.W.ksFn name qual (defArgs sx_InvalidRatio) (defBody sx_InvalidRatio) (defScope sx_InvalidRatio) .none .none doc pm an cda ct cc) ⟨.ref e :: us, []⟩ = pure (((("self" : Str) :: (["given"] : List Str))).zip (.ref e :: us)) :=
  match us, hl with
  | [u0], _ => rfl
theorem facts {w : World} {K : PySem.W.Frag} {h : Heap} {mg : Str → Option Value} {f : Addr} (X : K.In h) (G : h.Ns mainGlobals mg) (hfa : mg ("law" : Str) = some (.ref f)) (c : SaysZ lyL faL fnL h K) :
    ∃ fd : FuncData, (∀ (s : Shared) (v : Value), BindsTo s fd ⟨[v], []⟩ [("_law_script", v)]) ∧ ∀ base : Heap, K.In base → base.Ns mainGlobals mg → (∀ q ∈ lamFns K, LamX.TabB base mg q.1 q.2.1) → FnR PySem.Challenge.rw_missingmiles_k03_sums_and_products_of_ra.prog w K mg base 14 f fd ["_law_script"] (spLaw K) := by
  obtain ⟨fd0, F0⟩ := c.s.def_ 0 (d := df0) rfl
  obtain ⟨fd1, F1⟩ := c.s.def_ 1 (d := df1) rfl
  obtain ⟨fd2, F2⟩ := c.s.def_ 2 (d := df2) rfl
  obtain ⟨fd3, F3⟩ := c.s.def_ 3 (d := df3) rfl
  obtain ⟨fd4, F4⟩ := c.s.def_ 4 (d := df4) rfl
  obtain ⟨fd5, F5⟩ := c.s.def_ 5 (d := df5) rfl
  obtain ⟨fd6, F6⟩ := c.s.def_ 6 (d := df6) rfl
  obtain ⟨fd7, F7⟩ := c.s.def_ 7 (d := df7) rfl
  obtain ⟨fd8, F8⟩ := c.s.def_ 8 (d := df8) rfl
  obtain ⟨fd9, F9⟩ := c.s.def_ 9 (d := df9) rfl
  obtain ⟨fd10, F10⟩ := c.s.def_ 10 (d := df10) rfl
  obtain ⟨fd11, F11⟩ := c.s.def_ 11 (d := df11) rfl
  obtain ⟨fd12, F12⟩ := c.s.def_ 12 (d := df12) rfl
  obtain ⟨fd13, F13⟩ := c.s.def_ 13 (d := df13) rfl
  obtain ⟨fd14, F14⟩ := c.s.def_ 14 (d := df14) rfl
  obtain ⟨fd15, F15⟩ := c.s.def_ 15 (d := df15) rfl
  obtain ⟨fd16, F16⟩ := c.s.def_ 16 (d := df16) rfl
  obtain ⟨fd17, F17⟩ := c.s.def_ 17 (d := df17) rfl
  obtain ⟨fd18, F18⟩ := c.s.def_ 18 (d := df18) rfl
  obtain ⟨fd19, F19⟩ := c.s.def_ 19 (d := df19) rfl
  obtain ⟨fd20, F20⟩ := c.s.def_ 20 (d := df20) rfl
  obtain ⟨fd21, F21⟩ := c.s.def_ 21 (d := df21) rfl
  obtain ⟨fd22, F22⟩ := c.s.def_ 22 (d := df22) rfl
  obtain ⟨fd23, F23⟩ := c.s.def_ 23 (d := df23) rfl
  obtain ⟨fd24, F24⟩ := c.s.def_ 24 (d := df24) rfl
  have e := hfa.symm.trans (He.glo_ok X G (c.s.fact 24 (f := .glo "law") rfl))
  cases e
  have su := He.free_ok X G (c.s.fact 37 (f := .free "super") rfl)
  have X0 := c.x xs_InvalidRatio (List.mem_of_getElem? (i := 0) rfl)
  have T : ∀ base : Heap, (∀ q ∈ lamFns K, LamX.TabB base mg q.1 q.2.1) → Tx PySem.Challenge.rw_missingmiles_k03_sums_and_products_of_ra.prog K mg base (fun i => match i with | 0 => He.ga K "is_whole" | 1 => He.ga K "is_ratio" | 2 => He.ga K "lowest" | 3 => He.ga K "ratio_of" | 4 => He.ga K "plus" | 5 => He.ga K "times" | 6 => He.ga K "below" | 7 => He.ga K "added" | 8 => He.ga K "multiplied" | 9 => He.ga K "is_less" | 10 => He.ga K "_law_source" | 11 => He.ga K "_law_draw" | 12 => He.ga K "_law_of" | 13 => He.ga K "_law_same" | 14 => He.ga K "_law_fields" | 15 => He.ga K "_law_ask" | 16 => He.ga K "_law_low" | 17 => He.ga K "_law_plus" | 18 => He.ga K "_law_times" | 19 => He.ga K "_law_less" | 20 => He.ga K "_law_total" | 21 => He.ga K "_law_wide" | 22 => He.ga K "_law_bare" | 23 => He.ga K "_law_sum_and_product" | 24 => He.ga K "law" | _ => 0) (fun i => match i with | 0 => fd0 | 1 => fd1 | 2 => fd2 | 3 => fd3 | 4 => fd4 | 5 => fd5 | 6 => fd6 | 7 => fd7 | 8 => fd8 | 9 => fd9 | 10 => fd10 | 11 => fd11 | 12 => fd12 | 13 => fd13 | 14 => fd14 | 15 => fd15 | 16 => fd16 | 17 => fd17 | 18 => fd18 | 19 => fd19 | 20 => fd20 | 21 => fd21 | 22 => fd22 | 23 => fd23 | 24 => fd24 | _ => fd0) := fun base tb =>
    { tb := tb
      F_is_whole := F0
      m_is_whole := He.glo_ok X G (c.s.fact 0 (f := .glo "is_whole") rfl)
      F_is_ratio := F1
      m_is_ratio := He.glo_ok X G (c.s.fact 1 (f := .glo "is_ratio") rfl)
      F_lowest := F2
      m_lowest := He.glo_ok X G (c.s.fact 2 (f := .glo "lowest") rfl)
      F_ratio_of := F3
      m_ratio_of := He.glo_ok X G (c.s.fact 3 (f := .glo "ratio_of") rfl)
      F_plus := F4
      m_plus := He.glo_ok X G (c.s.fact 4 (f := .glo "plus") rfl)
      F_times := F5
      m_times := He.glo_ok X G (c.s.fact 5 (f := .glo "times") rfl)
      F_below := F6
      m_below := He.glo_ok X G (c.s.fact 6 (f := .glo "below") rfl)
      F_added := F7
      m_added := He.glo_ok X G (c.s.fact 7 (f := .glo "added") rfl)
      F_multiplied := F8
      m_multiplied := He.glo_ok X G (c.s.fact 8 (f := .glo "multiplied") rfl)
      F_is_less := F9
      m_is_less := He.glo_ok X G (c.s.fact 9 (f := .glo "is_less") rfl)
      F__law_source := F10
      m__law_source := He.glo_ok X G (c.s.fact 10 (f := .glo "_law_source") rfl)
      F__law_draw := F11
      m__law_draw := He.glo_ok X G (c.s.fact 11 (f := .glo "_law_draw") rfl)
      F__law_of := F12
      m__law_of := He.glo_ok X G (c.s.fact 12 (f := .glo "_law_of") rfl)
      F__law_same := F13
      m__law_same := He.glo_ok X G (c.s.fact 13 (f := .glo "_law_same") rfl)
      F__law_fields := F14
      m__law_fields := He.glo_ok X G (c.s.fact 14 (f := .glo "_law_fields") rfl)
      F__law_ask := F15
      m__law_ask := He.glo_ok X G (c.s.fact 15 (f := .glo "_law_ask") rfl)
      F__law_low := F16
      m__law_low := He.glo_ok X G (c.s.fact 16 (f := .glo "_law_low") rfl)
      F__law_plus := F17
      m__law_plus := He.glo_ok X G (c.s.fact 17 (f := .glo "_law_plus") rfl)
      F__law_times := F18
      m__law_times := He.glo_ok X G (c.s.fact 18 (f := .glo "_law_times") rfl)
      F__law_less := F19
      m__law_less := He.glo_ok X G (c.s.fact 19 (f := .glo "_law_less") rfl)
      F__law_total := F20
      m__law_total := He.glo_ok X G (c.s.fact 20 (f := .glo "_law_total") rfl)
      F__law_wide := F21
      m__law_wide := He.glo_ok X G (c.s.fact 21 (f := .glo "_law_wide") rfl)
      F__law_bare := F22
      m__law_bare := He.glo_ok X G (c.s.fact 22 (f := .glo "_law_bare") rfl)
      F__law_sum_and_product := F23
      m__law_sum_and_product := He.glo_ok X G (c.s.fact 23 (f := .glo "_law_sum_and_product") rfl)
      F_law := F24
      x_InvalidRatio := X0.cls xt_InvalidRatio (by decide +kernel) (by decide +kernel) xb_InvalidRatio (by intro f hf; simp at hf; rcases hf with rfl | rfl <;> decide) (fun vs z => by cases z) su (by decide)
      xe_InvalidRatio := X0.r rfl
      m_InvalidRatio := He.glo_ok X G (c.s.fact 25 (f := .glo "InvalidRatio") rfl)
      m_MilesError := He.glo_ok X G (c.s.fact 26 (f := .glo "MilesError") rfl)
      m_Missing := He.glo_ok X G (c.s.fact 27 (f := .glo "Missing") rfl)
      m_NothingLeft := He.glo_ok X G (c.s.fact 28 (f := .glo "NothingLeft") rfl)
      n_abs := He.free_ok X G (c.s.fact 29 (f := .free "abs") rfl)
      n_bool := He.free_ok X G (c.s.fact 30 (f := .free "bool") rfl)
      n_int := He.free_ok X G (c.s.fact 31 (f := .free "int") rfl)
      n_isinstance := He.free_ok X G (c.s.fact 32 (f := .free "isinstance") rfl)
      n_len := He.free_ok X G (c.s.fact 33 (f := .free "len") rfl)
      n_list := He.free_ok X G (c.s.fact 34 (f := .free "list") rfl)
      n_range := He.free_ok X G (c.s.fact 35 (f := .free "range") rfl)
      n_repr := He.free_ok X G (c.s.fact 36 (f := .free "repr") rfl)
      n_super := He.free_ok X G (c.s.fact 37 (f := .free "super") rfl)
      n_tuple := He.free_ok X G (c.s.fact 38 (f := .free "tuple") rfl)
      b_gcd := c.blt X G 0 rfl
      c_ZERO := c.glob X G 0 rfl
      c_ONE := c.glob X G 1 rfl }
  exact ⟨fd24, binds1_of F24 fun _ _ _ _ _ _ u => rfl, fun base _ _ tb => ok_law (T base tb)⟩
end
end K03
open PySem PySem.W PySem.Calls PyProof.Rows in
set_option maxRecDepth 100000 in
set_option maxHeartbeats 0 in
theorem PySem.Challenge.cw_missingmiles_k03_sums_and_products_of_ra_holds : PySem.Challenge.rw_missingmiles_k03_sums_and_products_of_ra.Holds := by
  w_on; o_law
  refine HandSHeadRun.head_imp (r := OpenLaw.row PySem.Challenge.rw_missingmiles_k03_sums_and_products_of_ra) (q := K03.qv) (H := K03.hk) (ob := K03.ob) (M := 9000) (loose := K03.names) (d := HandSHeadRun.topDef (OpenLaw.row PySem.Challenge.rw_missingmiles_k03_sums_and_products_of_ra).prog 34) (kwd := []) K03.ob_eq
    K03.run (by kernel_rfl) (by kernel_rfl) (by kernel_rfl) (by rfl) (by first | assumption | decide +kernel) (by decide +kernel) ⟨rfl, rfl, rfl, rfl, rfl, by decide +kernel⟩ ?hw ?hc
  case hw => w_witness2
  case hc =>
    refine DL.walk_ofX (l := PySem.Challenge.rw_missingmiles_k03_sums_and_products_of_ra) (n := 63) (k := 14) (x := "_law_script") rfl (by decide) (by kernel_rfl) ⟨rfl, by decide, by decide⟩ ?F
    intro w mg fa h Y G hmg0
    obtain ⟨K, KX, c⟩ := Y
    have hmg : mg ("law" : PySem.Str) = some (.ref fa) := by
      have e : (HandSHeadRun.topDef (OpenLaw.row PySem.Challenge.rw_missingmiles_k03_sums_and_products_of_ra).prog 34).name = ("law" : PySem.Str) := by kernel_rfl
      rw [← e]
      exact hmg0
    obtain ⟨fd, hb, hF⟩ := K03.facts (w := w) KX G hmg c
    exact ⟨K, fd, DL.spLaw K, KX, hb, c.te, c.tn, c.tc, fun H a ns hl hT hS => ⟨a, ns, rfl, hS, hl, hT, c.tu, fun _ => rfl⟩, hF⟩

