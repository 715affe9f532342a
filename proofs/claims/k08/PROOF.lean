import PyProof.Rows.All
import Wide.All
import OpenK.AllK
import Wide.FinOn
import HandS.ForMost
import HandS.Exc
import HandS.TryOnly
import HandS.ExcOwn
import HandS.WordsExc
import HandS.CallSlots
import HandS.Walk
import HandS.Wide
import HandS.Gcd
import HandS.IsInst
import HandS.Defaults
import HandS.TupAny
import HandS.Deep
import HandS.RaiseMore
import HandS.Flow
import HandS.Zip
import KE.KStateDown
import HandS.Head0
import HandS.Head1
import HandS.Head2
import HandS.Head3
import HandS.HeadEnd
import HandS.HeadHook1
import HandS.HeadHook2
import HandS.MakeKwOnly
import HandS.Style
import HandS.TupLe
import KE.GoesZip
import KE.GoesMore
import PySem.Challenge.RW_missingmiles_k08_values_that_keep_rows
set_option Elab.async false
set_option linter.all false
set_option maxRecDepth 100000
set_option autoImplicit false
set_option maxHeartbeats 2000000
/-! DL: readings over data trees. A value is a tree (D), the law's source of draws, or a list that nobody else holds. -/
namespace DL
open PySem PySem.Spec PyProof.Rows L2

/-! ### data -/
inductive D where
  | non | bl (b : Bool) | int (i : Int) | str (x : Str)
  | lst (ds : List D) | tup (ds : List D)
  | ins (C : Addr) (fs : List (Str × D))
  | raw (v : V)

abbrev Ex (H H' : Hp) : Prop := ∀ a o, H a = some o → H' a = some o
theorem Ex.refl (H : Hp) : Ex H H := fun _ _ h => h
theorem Ex.trans {H H1 H2 : Hp} (a : Ex H H1) (b : Ex H1 H2) : Ex H H2 := fun x o h => b x o (a x o h)
theorem Ex.new {H : Hp} {p : Addr} {o : HO} (h : H p = none) : Ex H (upd H p o) := fun a u e => by
  rw [upd_ne (ne_of_none e h)]; exact e
theorem Ex.up {G H : Hp} {p : Addr} {o : HO} (e : Ex G H) : Ex (upd G p o) (upd H p o) := fun a u h => by
  by_cases q : a = p
  · subst q; rw [upd_same] at h ⊢; exact h
  · rw [upd_ne q] at h ⊢; exact e a u h
theorem Ex.free {G H : Hp} (e : Ex G H) {a : Addr} (h : H a = none) : G a = none := by
  cases q : G a with
  | none => rfl
  | some o => rw [e a o q] at h; cases h
theorem ex_rd {H H' : Hp} {a : Addr} {u : HO} (e : Ex H H') (h : Rd H a u) : Rd H' a u := by
  rcases h with h | ⟨o, h⟩
  · exact Or.inl (e a _ h)
  · exact Or.inr ⟨o, e a _ h⟩
theorem ex_l {K : PySem.W.Frag} {H H' : Hp} {a : Addr} {xs : List V} (e : Ex H H') (h : SqL K H a xs) : SqL K H' a xs := by
  rcases h with h | h
  · exact Or.inl (ex_rd e h)
  · exact Or.inr h
theorem ex_t {K : PySem.W.Frag} {H H' : Hp} {a : Addr} {xs : List V} (e : Ex H H') (h : SqT K H a xs) : SqT K H' a xs := by
  rcases h with h | h
  · exact Or.inl (ex_rd e h)
  · exact Or.inr h

mutual
/-- the value v is the tree d, all of its objects standing in G -/
inductive DOk (K : PySem.W.Frag) (G : Hp) : V → D → Prop
  | non : DOk K G .non .non
  | bl (b : Bool) : DOk K G (.bl b) (.bl b)
  | int (i : Int) : DOk K G (.int i) (.int i)
  | str (x : Str) : DOk K G (.str x) (.str x)
  | lst {a : Addr} {vs : List V} {ds : List D} : G a = some (.lst vs) → DAll K G vs ds → DOk K G (.ref a) (.lst ds)
  | tup {a : Addr} {vs : List V} {ds : List D} : SqT K G a vs → DAll K G vs ds → DOk K G (.ref a) (.tup ds)
  | ins {a C dx : Addr} {vs : List (Str × V)} {fs : List (Str × D)} : G a = some (.ins C dx vs) → G dx = some (.own a) → FAll K G vs fs → DOk K G (.ref a) (.ins C fs)
  | raw (v : V) : DOk K G v (.raw v)
inductive DAll (K : PySem.W.Frag) (G : Hp) : List V → List D → Prop
  | nil : DAll K G [] []
  | cons {v : V} {d : D} {vs : List V} {ds : List D} : DOk K G v d → DAll K G vs ds → DAll K G (v :: vs) (d :: ds)
inductive FAll (K : PySem.W.Frag) (G : Hp) : List (Str × V) → List (Str × D) → Prop
  | nil : FAll K G [] []
  | cons {x : Str} {v : V} {d : D} {vs : List (Str × V)} {ds : List (Str × D)} : DOk K G v d → FAll K G vs ds → FAll K G ((x, v) :: vs) ((x, d) :: ds)
end

section
variable {K : PySem.W.Frag} {G G' : Hp}
mutual
theorem DOk.mono (e : Ex G G') : ∀ {v : V} {d : D}, DOk K G v d → DOk K G' v d
  | _, _, .non => .non
  | _, _, .bl b => .bl b
  | _, _, .int i => .int i
  | _, _, .str x => .str x
  | _, _, .lst h a => .lst (e _ _ h) (DAll.mono e a)
  | _, _, .tup h a => .tup (ex_t e h) (DAll.mono e a)
  | _, _, .ins h h2 a => .ins (e _ _ h) (e _ _ h2) (FAll.mono e a)
  | _, _, .raw v => .raw v
theorem DAll.mono (e : Ex G G') : ∀ {vs : List V} {ds : List D}, DAll K G vs ds → DAll K G' vs ds
  | _, _, .nil => .nil
  | _, _, .cons h t => .cons (DOk.mono e h) (DAll.mono e t)
theorem FAll.mono (e : Ex G G') : ∀ {vs : List (Str × V)} {ds : List (Str × D)}, FAll K G vs ds → FAll K G' vs ds
  | _, _, .nil => .nil
  | _, _, .cons h t => .cons (DOk.mono e h) (FAll.mono e t)
end
theorem DAll.length : ∀ {vs : List V} {ds : List D}, DAll K G vs ds → vs.length = ds.length
  | _, _, .nil => rfl
  | _, _, .cons _ t => congrArg (· + 1) (DAll.length t)
theorem DAll.get : ∀ {vs : List V} {ds : List D} {i : Nat} {d : D}, DAll K G vs ds → ds[i]? = some d → ∃ v, vs[i]? = some v ∧ DOk K G v d
  | _, _, _, _, .nil, e => by simp at e
  | _, _, 0, _, .cons h _, e => by simp at e; subst e; exact ⟨_, rfl, h⟩
  | _, _, i + 1, _, .cons _ t, e => by
    obtain ⟨v, h1, h2⟩ := DAll.get (i := i) t (by simpa using e)
    exact ⟨v, by simpa using h1, h2⟩
theorem DAll.getV : ∀ {vs : List V} {ds : List D} {i : Nat} {v : V}, DAll K G vs ds → vs[i]? = some v → ∃ d, ds[i]? = some d ∧ DOk K G v d
  | _, _, _, _, .nil, e => by simp at e
  | _, _, 0, _, .cons h _, e => by simp at e; subst e; exact ⟨_, rfl, h⟩
  | _, _, i + 1, _, .cons _ t, e => by
    obtain ⟨v, h1, h2⟩ := DAll.getV (i := i) t (by simpa using e)
    exact ⟨v, by simpa using h1, h2⟩
theorem DAll.append : ∀ {vs ws : List V} {ds es : List D}, DAll K G vs ds → DAll K G ws es → DAll K G (vs ++ ws) (ds ++ es)
  | _, _, _, _, .nil, s => s
  | _, _, _, _, .cons h t, s => .cons h (DAll.append t s)
theorem DAll.take : ∀ {vs : List V} {ds : List D} (n : Nat), DAll K G vs ds → DAll K G (vs.take n) (ds.take n)
  | _, _, 0, _ => by rw [List.take_zero, List.take_zero]; exact .nil
  | _, _, _ + 1, .nil => .nil
  | _, _, n + 1, .cons h t => .cons h (DAll.take n t)
theorem DAll.drop : ∀ {vs : List V} {ds : List D} (n : Nat), DAll K G vs ds → DAll K G (vs.drop n) (ds.drop n)
  | _, _, 0, r => r
  | _, _, _ + 1, .nil => .nil
  | _, _, n + 1, .cons _ t => DAll.drop n t
theorem DAll.set {v : V} {d : D} (r : DOk K G v d) : ∀ {vs : List V} {ds : List D} (i : Nat), DAll K G vs ds → DAll K G (vs.set i v) (ds.set i d)
  | _, _, _, .nil => .nil
  | _, _, 0, .cons _ t => .cons r t
  | _, _, i + 1, .cons q t => .cons q (DAll.set r i t)
theorem DAll.ints : ∀ (ns : List Int), DAll K G (ns.map V.int) (ns.map D.int)
  | [] => .nil
  | n :: r => .cons (.int n) (DAll.ints r)
theorem FAll.look : ∀ {vs : List (Str × V)} {fs : List (Str × D)} {f : Str} {d : D}, FAll K G vs fs → fs.lookup f = some d → ∃ v, vs.lookup f = some v ∧ DOk K G v d
  | _, _, _, _, .nil, e => by simp at e
  | _, _, f, d, .cons (x := x) h t, e => by
    rw [List.lookup_cons] at e
    rw [List.lookup_cons]
    cases q : f == x with
    | true => rw [q] at e; cases e; exact ⟨_, rfl, h⟩
    | false => rw [q] at e; exact FAll.look t e
theorem FAll.lookN : ∀ {vs : List (Str × V)} {fs : List (Str × D)} {f : Str}, FAll K G vs fs → fs.lookup f = none → vs.lookup f = none
  | _, _, _, .nil, _ => rfl
  | _, _, f, .cons (x := x) h t, e => by
    rw [List.lookup_cons] at e ⊢
    cases q : f == x with
    | true => rw [q] at e; cases e
    | false => rw [q] at e; exact FAll.lookN t e
end

/-! ### values -/
/-- what an object that is held alone looks like -/
inductive OO where
  | lst (ds : List D)
  | ins (x C : Addr) (fs : List (Str × D))
inductive DV where
  | d (x : D) | src | own (o : OO) | bor (o : OO) | see (o : OO)

def OwnOk (K : PySem.W.Frag) (G H : Hp) (a : Addr) : OO → Prop
  | .lst ds => ∃ vs, H a = some (.lst vs) ∧ DAll K G vs ds
  | .ins x C fs => a = x ∧ ∃ dx vs, H a = some (.ins C dx vs) ∧ G dx = some (.own a) ∧ FAll K G vs fs
theorem OwnOk.there {K : PySem.W.Frag} {G H : Hp} {a : Addr} {o : OO} (h : OwnOk K G H a o) : H a ≠ none := by
  cases o with
  | lst ds => obtain ⟨vs, e, _⟩ := h; rw [e]; simp
  | ins x C fs => obtain ⟨_, dx, vs, e, _⟩ := h; rw [e]; simp
theorem OwnOk.keep {K : PySem.W.Frag} {G H G' H' : Hp} {a : Addr} {o : OO} (h : OwnOk K G H a o) (e : Ex G G') (k : H' a = H a) : OwnOk K G' H' a o := by
  cases o with
  | lst ds => obtain ⟨vs, q, r⟩ := h; exact ⟨vs, by rw [k]; exact q, r.mono e⟩
  | ins x C fs => obtain ⟨ex, dx, vs, q, g, r⟩ := h; exact ⟨ex, dx, vs, by rw [k]; exact q, e _ _ g, r.mono e⟩

/-- the source of draws: the cells, the place, the rest, the mixed number, the count -/
def SrcOk (K : PySem.W.Frag) (G H : Hp) (a : Addr) : Prop := G a = none ∧ ∃ (c : Addr) (ns : List Int) (i r sd n : Int),
  H a = some (.lst [.ref c, .int i, .int r, .int sd, .int n]) ∧ SqL K G c (ns.map V.int) ∧ ns.length ≤ 63 ∧ 0 ≤ i ∧ 0 ≤ r ∧ 0 ≤ sd ∧ sd < 4294967296

def VOk (K : PySem.W.Frag) (G : Hp) (so : Option Addr) (H : Hp) (v : V) : DV → Prop
  | .d x => DOk K G v x
  | .src => ∃ a, so = some a ∧ v = .ref a
  | .own o => ∃ a, v = .ref a ∧ G a = none ∧ so ≠ some a ∧ OwnOk K G H a o
  | .bor o => ∃ a, v = .ref a ∧ so ≠ some a ∧ OwnOk K G H a o
  | .see o => ∃ a, v = .ref a ∧ so ≠ some a ∧ OwnOk K G H a o

structure HRep (K : PySem.W.Frag) (G : Hp) (so : Option Addr) (H : Hp) : Prop where
  ex : Ex G H
  src : ∀ a, so = some a → SrcOk K G H a
theorem HRep.nsrc {K : PySem.W.Frag} {G : Hp} {so : Option Addr} {H : Hp} (h : HRep K G so H) {a : Addr} {o : HO} (q : G a = some o) : so ≠ some a := fun z => by
  rw [(h.src a z).1] at q; cases q
theorem HRep.there {K : PySem.W.Frag} {G : Hp} {so : Option Addr} {H : Hp} (h : HRep K G so H) {a : Addr} (q : H a = none) : so ≠ some a := fun z => by
  obtain ⟨_, _, _, _, _, _, _, e, _⟩ := h.src a z
  rw [e] at q; cases q

abbrev DSt := List (Option DV)
def Own (sl : DSt) (σ : L2.St) (a : Addr) : Prop := ∃ (i : Nat) (o : OO), sl[i]? = some (some (.own o)) ∧ σ[i]? = some (some (.ref a))

structure Rep (K : PySem.W.Frag) (G : Hp) (so : Option Addr) (σ : L2.St) (H : Hp) (sl : DSt) : Prop where
  h : HRep K G so H
  len : sl.length = σ.length
  slots : ∀ (i : Nat) (dv : DV), sl[i]? = some (some dv) → ∃ v, σ[i]? = some (some v) ∧ VOk K G so H v dv
  sep : ∀ (i j : Nat) (o o' : OO) (a : Addr), sl[i]? = some (some (.own o)) → sl[j]? = some (some (.own o')) → σ[i]? = some (some (.ref a)) → σ[j]? = some (some (.ref a)) → i = j
  bor : ∀ (i : Nat) (o : OO) (a : Addr), sl[i]? = some (some (.bor o)) → σ[i]? = some (some (.ref a)) → ¬ Own sl σ a
  nse : ∀ (i : Nat) (o : OO), sl[i]? ≠ some (some (.see o))

/-- the heap has grown, all that stood stands; G may have taken in what is new or what the slots held -/
structure Post (K : PySem.W.Frag) (G : Hp) (so : Option Addr) (σ : L2.St) (H : Hp) (sl : DSt) (H' G' : Hp) (sl' : DSt) : Prop where
  ex : Ex G G'
  rep : Rep K G' so σ H' sl'
  keep : ∀ a o, H a = some o → so ≠ some a → H' a = some o
  frm : ∀ a, H a ≠ none → G a = none → so ≠ some a → ¬ Own sl σ a → G' a = none
  sub : ∀ a, Own sl' σ a → Own sl σ a
  bsub : ∀ (i : Nat) (o : OO), sl'[i]? = some (some (.bor o)) → ∃ o', sl[i]? = some (some (.bor o'))
/-- .. and v is the value dv; one that is held alone is in no slot and was not there before -/
structure PostE (K : PySem.W.Frag) (G : Hp) (so : Option Addr) (σ : L2.St) (H : Hp) (sl : DSt) (v : V) (H' G' : Hp) (dv : DV) (sl' : DSt) : Prop extends Post K G so σ H sl H' G' sl' where
  val : VOk K G' so H' v dv
  new : ∀ a o, dv = .own o → v = .ref a → H a = none ∨ Own sl σ a
  sepv : ∀ a o, dv = .own o ∨ dv = .bor o → v = .ref a → ¬ Own sl' σ a
  nbs : ∀ (a : Addr) (o : OO) (i : Nat) (o' : OO), dv = .own o → v = .ref a → sl'[i]? = some (some (.bor o')) → σ[i]? = some (some (.ref a)) → False

section
variable {K : PySem.W.Frag} {G G1 G2 : Hp} {so : Option Addr} {σ : L2.St} {H H1 H2 : Hp} {sl s1 s2 : DSt} {v x y : V} {dv dx dy : DV}
theorem Rep.nown (r : Rep K G so σ H sl) {a : Addr} (h : Own sl σ a) : H a ≠ none ∧ G a = none ∧ so ≠ some a := by
  obtain ⟨i, o, e1, e2⟩ := h
  obtain ⟨v, e3, e4⟩ := r.slots i _ e1
  rw [e2] at e3; cases e3
  obtain ⟨b, q, g, s, k⟩ := e4
  cases q
  exact ⟨k.there, g, s⟩
theorem Post.refl (r : Rep K G so σ H sl) : Post K G so σ H sl H G sl := ⟨Ex.refl G, r, fun _ _ e _ => e, fun _ _ g _ _ => g, fun _ o => o, fun _ o e => ⟨o, e⟩⟩
theorem keep_ne {H H' : Hp} {so : Option Addr} (k : ∀ a o, H a = some o → so ≠ some a → H' a = some o) {a : Addr} (n : H a ≠ none) (s : so ≠ some a) : H' a = H a := by
  cases q : H a with
  | none => exact absurd q n
  | some o => exact k a o q s
theorem Post.trans (a : Post K G so σ H sl H1 G1 s1) (b : Post K G1 so σ H1 s1 H2 G2 s2) : Post K G so σ H sl H2 G2 s2 :=
  ⟨a.ex.trans b.ex, b.rep, fun c o e s => b.keep c o (a.keep c o e s) s, fun c n g s w => by
    have n1 : H1 c ≠ none := by rw [keep_ne a.keep n s]; exact n
    exact b.frm c n1 (a.frm c n g s w) s fun z => w (a.sub c z), fun c o => a.sub c (b.sub c o), fun i o e => let ⟨o1, e1⟩ := b.bsub i o e; a.bsub i o1 e1⟩
/-- a value that is known stays so -/
theorem VOk.keep (h : VOk K G so H x dx) (e : Ex G G1) (k : ∀ a o, H a = some o → so ≠ some a → H1 a = some o) (g : ∀ a o, dx = .own o → x = .ref a → G1 a = none) : VOk K G1 so H1 x dx := by
  cases dx with
  | d z => exact DOk.mono e h
  | src => exact h
  | own o =>
    obtain ⟨a, q, q1, q2, q3⟩ := h
    exact ⟨a, q, g a o rfl q, q2, q3.keep e (keep_ne k q3.there q2)⟩
  | bor o =>
    obtain ⟨a, q, q2, q3⟩ := h
    exact ⟨a, q, q2, q3.keep e (keep_ne k q3.there q2)⟩
  | see o =>
    obtain ⟨a, q, q2, q3⟩ := h
    exact ⟨a, q, q2, q3.keep e (keep_ne k q3.there q2)⟩
/-- behind a further expression -/
theorem PostE.over (a : PostE K G so σ H sl x H1 G1 dx s1) (b : Post K G1 so σ H1 s1 H2 G2 s2) : VOk K G2 so H2 x dx :=
  a.val.keep b.ex b.keep fun c o e q => by
    have w : VOk K G1 so H1 x dx := a.val
    rw [e] at w
    obtain ⟨c', q', g, s, k⟩ := w
    rw [q] at q'; cases q'
    exact b.frm c k.there g s (a.sepv c o (.inl e) q)
end

/-! ### steps on values alone: the slots are not looked at -/
structure PostV (K : PySem.W.Frag) (G : Hp) (so : Option Addr) (H : Hp) (v : V) (H' G' : Hp) (dv : DV) : Prop where
  ex : Ex G G'
  hrep : HRep K G' so H'
  keep : ∀ a o, H a = some o → so ≠ some a → H' a = some o
  frm : ∀ a, H a ≠ none → G a = none → so ≠ some a → G' a = none
  val : VOk K G' so H' v dv
  new : ∀ a o, dv = .own o → v = .ref a → H a = none
  nob : ∀ o, dv ≠ .bor o
section
variable {K : PySem.W.Frag} {G G' : Hp} {so : Option Addr} {σ : L2.St} {H H' : Hp} {sl : DSt} {v : V} {dv : DV}
theorem PostV.slots (p : PostV K G so H v H' G' dv) (r : Rep K G so σ H sl) : PostE K G so σ H sl v H' G' dv sl where
  ex := p.ex
  rep := ⟨p.hrep, r.len, fun i d e => by
    obtain ⟨w, e1, e2⟩ := r.slots i d e
    refine ⟨w, e1, e2.keep p.ex p.keep fun a o ed q => ?_⟩
    subst ed
    subst q
    obtain ⟨n, g, s⟩ := r.nown ⟨i, o, e, e1⟩
    exact p.frm a n g s, r.sep, r.bor, r.nse⟩
  keep := p.keep
  frm := fun a n g s _ => p.frm a n g s
  sub := fun _ o => o
  bsub := fun _ o e => ⟨o, e⟩
  val := p.val
  new := fun a o e q => .inl (p.new a o e q)
  sepv := fun a o e q z => e.elim (fun e => (r.nown z).1 (p.new a o e q)) fun e => p.nob o e
  nbs := fun a o i o' e q e1 e2 => by
    obtain ⟨w, f1, f2⟩ := r.slots i _ e1
    rw [e2] at f1; cases f1
    obtain ⟨b, z, _, k⟩ := f2
    cases z
    exact k.there (p.new a o e q)
/-- nothing is made -/
theorem PostV.pure (h : HRep K G so H) (w : VOk K G so H v dv) (n : ∀ o, dv ≠ .own o) (m : ∀ o, dv ≠ .bor o) : PostV K G so H v H G dv :=
  ⟨Ex.refl G, h, fun _ _ e _ => e, fun _ _ g _ => g, w, fun _ o e => absurd e (n o), m⟩
/-- a plain value of the model's -/
theorem PostV.dat {x : D} (h : HRep K G so H) (w : DOk K G v x) : PostV K G so H v H G (.d x) := .pure h w (fun _ e => (nomatch e)) fun _ e => (nomatch e)
theorem SrcOk.keep {H H' G G' : Hp} {a : Addr} (s : SrcOk K G H a) (e : Ex G G') (g : G' a = none) (k : H' a = H a) : SrcOk K G' H' a := by
  obtain ⟨_, c, ns, i, r, sd, n, h1, h2, h3⟩ := s
  exact ⟨g, c, ns, i, r, sd, n, by rw [k]; exact h1, ex_l e h2, h3⟩
theorem HRep.alloc {p : Addr} {o : HO} (h : HRep K G so H) (n : H p = none) : HRep K G so (upd H p o) :=
  ⟨h.ex.trans (Ex.new n), fun a e => (h.src a e).keep (Ex.refl G) (h.src a e).1 (upd_ne fun z => h.there n (z ▸ e))⟩
theorem HRep.allocG {p : Addr} {o : HO} (h : HRep K G so H) (n : H p = none) : HRep K (upd G p o) so (upd H p o) :=
  ⟨h.ex.up, fun a e => 
    have z : a ≠ p := fun z => h.there n (z ▸ e)
    (h.src a e).keep (Ex.new (h.ex.free n)) (by rw [upd_ne z]; exact (h.src a e).1) (upd_ne z)⟩
/-- a new list, held alone -/
theorem PostV.list {p : Addr} {vs : List V} {ds : List D} (h : HRep K G so H) (n : H p = none) (a : DAll K G vs ds) : PostV K G so H (.ref p) (upd H p (.lst vs)) G (.own (.lst ds)) :=
  ⟨Ex.refl G, h.alloc n, fun _ _ e _ => Ex.new n _ _ e, fun _ _ g _ => g, ⟨p, rfl, h.ex.free n, h.there n, vs, upd_same, a⟩, fun b o e q => (by cases q; exact n), fun _ e => (nomatch e)⟩
/-- a new tuple -/
theorem PostV.tuple {p : Addr} {vs : List V} {ds : List D} (h : HRep K G so H) (n : H p = none) (a : DAll K G vs ds) : PostV K G so H (.ref p) (upd H p (.tup vs)) (upd G p (.tup vs)) (.d (.tup ds)) :=
  ⟨Ex.new (h.ex.free n), h.allocG n, fun _ _ e _ => Ex.new n _ _ e, fun b q g _ => by rw [upd_ne (fun z => by subst z; exact q n)]; exact g,
    .tup (SqT.of upd_same) (a.mono (Ex.new (h.ex.free n))), fun _ o e => (nomatch e), fun _ e => (nomatch e)⟩
theorem PostV.trans {v1 v2 : V} {d1 d2 : DV} {H1 H2 G1 G2 : Hp} (a : PostV K G so H v1 H1 G1 d1) (b : PostV K G1 so H1 v2 H2 G2 d2) : PostV K G so H v2 H2 G2 d2 :=
  ⟨a.ex.trans b.ex, b.hrep, fun c o e s => b.keep c o (a.keep c o e s) s, fun c n g s => b.frm c (by rw [keep_ne a.keep n s]; exact n) (a.frm c n g s) s, b.val, fun c o e q => by
    cases z : H c with
    | none => rfl
    | some u =>
      have n := b.new c o e q
      by_cases s : so = some c
      · have := (b.hrep.src c s)
        obtain ⟨_, _, _, _, _, _, _, k, _⟩ := a.hrep.src c s
        rw [k] at n; cases n
      · rw [a.keep c u z s] at n
        exact (nomatch n), b.nob⟩
/-- what was held alone goes into the ground -/
theorem PostV.publish {ds : List D} (p : PostV K G so H v H' G' (.own (.lst ds))) : ∃ G2, PostV K G so H v H' G2 (.d (.lst ds)) := by
  obtain ⟨a, rfl, g, s, vs, e, al⟩ := p.val
  refine ⟨upd G' a (.lst vs), p.ex.trans (Ex.new g), ⟨fun b o q => ?_, fun b e' => ?_⟩, p.keep, fun b n gb sb => ?_, .lst upd_same (al.mono (Ex.new g)), fun _ o e => (nomatch e), fun _ e => (nomatch e)⟩
  · by_cases z : b = a
    · subst z; rw [upd_same] at q; cases q; exact e
    · rw [upd_ne z] at q; exact p.hrep.ex b o q
  · have z : b ≠ a := fun z => s (z ▸ e')
    exact (p.hrep.src b e').keep (Ex.new g) (by rw [upd_ne z]; exact (p.hrep.src b e').1) rfl
  · have z : b ≠ a := fun z => by subst z; exact n (p.new b _ rfl rfl)
    rw [upd_ne z]; exact p.frm b n gb sb
end
end DL

set_option Elab.async false
set_option linter.all false
set_option maxRecDepth 100000
set_option autoImplicit false
set_option maxHeartbeats 2000000
namespace DL
open PySem PySem.Spec PyProof.Rows L2

/-! ### readings -/
abbrev XP := Value → List (Str × D) → DSt → Prop
abbrev TD := DSt → (DV → DSt → Prop) → XP → Prop
abbrev TDT := DSt → (Bool → DSt → Prop) → XP → Prop
abbrev TDA := DSt → (List DV → DSt → Prop) → XP → Prop
structure EndsD where
  nx : DSt → Prop
  rt : DV → Prop
  bk : DSt → Prop
  ct : DSt → Prop
  xc : XP
abbrev TDS := EndsD → DSt → Prop

def XdOk (K : PySem.W.Frag) (G H : Hp) : Option Addr → List (Str × D) → Prop
  | some dx, fs => ∃ vs, H dx = some (.xd vs) ∧ FAll K G vs fs
  | none, fs => fs = []
def XOk (K : PySem.W.Frag) (W : WX) (G : Hp) (so : Option Addr) (σ : L2.St) (H : Hp) (sl : DSt) (E : XP) : Prop :=
  ∀ cls d H' G' fs sl', Post K G so σ H sl H' G' sl' → XdOk K G' H' d fs → E cls fs sl' → W cls d σ H'
inductive VsOk (K : PySem.W.Frag) (G : Hp) (so : Option Addr) (H : Hp) : List V → List DV → Prop
  | nil : VsOk K G so H [] []
  | cons {v : V} {d : DV} {vs : List V} {ds : List DV} : VOk K G so H v d → (∀ o, d ≠ .own o) → VsOk K G so H vs ds → VsOk K G so H (v :: vs) (d :: ds)

section
variable (K : PySem.W.Frag) (W : WX)
def up (t : TD) : TE := fun σ H R => ∃ G so sl Q E, Rep K G so σ H sl ∧ t sl Q E ∧ (∀ v H' G' dv sl', PostE K G so σ H sl v H' G' dv sl' → Q dv sl' → R v H') ∧ XOk K W G so σ H sl E
def upT (t : TDT) : TT := fun σ H R => ∃ G so sl Q E, Rep K G so σ H sl ∧ t sl Q E ∧ (∀ b H' G' sl', Post K G so σ H sl H' G' sl' → Q b sl' → R b H') ∧ XOk K W G so σ H sl E
def upA (t : TDA) : TA := fun σ H R => ∃ G so sl Q E, Rep K G so σ H sl ∧ t sl Q E ∧ (∀ vs H' G' ds sl', Post K G so σ H sl H' G' sl' → VsOk K G' so H' vs ds → Q ds sl' → R vs H') ∧ XOk K W G so σ H sl E
end
def DE (X : Cx) (W : WX) (e : Expr) (t : TD) : Prop := PE X e (up X.K W t)
def DT (X : Cx) (W : WX) (e : Expr) (t : TDT) : Prop := PT X e (upT X.K W t)
def DA (X : Cx) (W : WX) (es : List Expr) (t : TDA) : Prop := PA X es (upA X.K W t)

theorem pe_imp {X : Cx} {e : Expr} {t t' : TE} (h : PE X e t) (f : ∀ σ H R, t' σ H R → t σ H R) : PE X e t' := ⟨fun pins s σ H Q I q => h.run pins s σ H Q I (f _ _ _ q)⟩
theorem pt_imp {X : Cx} {e : Expr} {t t' : TT} (h : PT X e t) (f : ∀ σ H R, t' σ H R → t σ H R) : PT X e t' := ⟨fun pins s σ H Q I q => h.run pins s σ H Q I (f _ _ _ q)⟩
theorem pw_imp {X : Cx} {e : Expr} {t t' : TT} (h : PW X e t) (f : ∀ σ H R, t' σ H R → t σ H R) : PW X e t' := ⟨fun wh pins s σ H Q I q => h.run wh pins s σ H Q I (f _ _ _ q)⟩
theorem pa_imp {X : Cx} {es : List Expr} {t t' : TA} (h : PA X es t) (f : ∀ σ H R, t' σ H R → t σ H R) : PA X es t' := ⟨fun pos pins s σ H Q I q => h.run pos pins s σ H Q I (f _ _ _ q)⟩
theorem ps_imp {X : Cx} {e : Stmt} {t t' : TS} (h : PS X e t) (f : ∀ D σ H, t' D σ H → t D σ H) : PS X e t' := ⟨fun pins s σ H Q I q => h.run pins s σ H Q I (f _ _ _ q)⟩
theorem pss_imp {X : Cx} {e : List Stmt} {t t' : TS} (h : PSs X e t) (f : ∀ D σ H, t' D σ H → t D σ H) : PSs X e t' := ⟨fun pins s σ H Q I q => h.run pins s σ H Q I (f _ _ _ q)⟩

section
variable {K : PySem.W.Frag} {W : WX} {G G1 G2 : Hp} {so : Option Addr} {σ : L2.St} {H H1 H2 : Hp} {sl s1 s2 : DSt} {v x y : V} {dv dx dy : DV} {E : XP}
theorem XOk.step (h : XOk K W G so σ H sl E) (p : Post K G so σ H sl H1 G1 s1) : XOk K W G1 so σ H1 s1 E := fun cls d H' G' fs sl' q a b => h cls d H' G' fs sl' (p.trans q) a b
theorem Post.back (a : Post K G so σ H sl H1 G1 s1) {c : Addr} (n : H1 c = none) : H c = none := by
  cases z : H c with
  | none => rfl
  | some u =>
    by_cases s : so = some c
    · obtain ⟨_, _, _, _, _, _, _, k, _⟩ := a.rep.h.src c s
      rw [k] at n; cases n
    · rw [a.keep c u z s] at n; cases n
theorem Post.thenE (a : Post K G so σ H sl H1 G1 s1) (b : PostE K G1 so σ H1 s1 v H2 G2 dv s2) : PostE K G so σ H sl v H2 G2 dv s2 :=
  { a.trans b.toPost with
    val := b.val
    new := fun c o e q => (b.new c o e q).imp a.back (a.sub c)
    sepv := b.sepv
    nbs := b.nbs }
theorem Post.thenV (a : Post K G so σ H sl H1 G1 s1) (b : PostV K G1 so H1 v H2 G2 dv) : PostE K G so σ H sl v H2 G2 dv s1 := a.thenE (b.slots a.rep)
theorem VsOk.keep : ∀ {vs : List V} {ds : List DV}, VsOk K G so H vs ds → Ex G G1 → (∀ a o, H a = some o → so ≠ some a → H1 a = some o) → VsOk K G1 so H1 vs ds
  | _, _, .nil, _, _ => .nil
  | _, _, .cons h n t, e, k => .cons (h.keep e k fun a o q => absurd q (n o)) n (VsOk.keep t e k)
theorem VsOk.length : ∀ {vs : List V} {ds : List DV}, VsOk K G so H vs ds → vs.length = ds.length
  | _, _, .nil => rfl
  | _, _, .cons _ _ t => congrArg (· + 1) (VsOk.length t)
end

/-! ### publishing -/
def pubO : OO → D
  | .lst ds => .lst ds
  | .ins _ C fs => .ins C fs
def pubV : DV → DV
  | .own o => .d (pubO o)
  | x => x
theorem pubV_not (dv : DV) : ∀ o, pubV dv ≠ .own o := fun o h => by cases dv <;> cases h
section
variable {K : PySem.W.Frag} {W : WX} {G G1 G2 : Hp} {so : Option Addr} {σ : L2.St} {H H1 H2 : Hp} {sl s1 s2 : DSt} {v x y : V} {dv dx dy : DV} {E : XP}
theorem own_ok {a : Addr} {o : OO} (h : OwnOk K G H a o) (g : G a = none) : ∃ u, H a = some u ∧ DOk K (upd G a u) (.ref a) (pubO o) := by
  cases o with
  | lst ds => obtain ⟨vs, e, r⟩ := h; exact ⟨_, e, .lst upd_same (r.mono (Ex.new g))⟩
  | ins x C fs => obtain ⟨_, dx, vs, e, gd, r⟩ := h; exact ⟨_, e, .ins upd_same (Ex.new g _ _ gd) (r.mono (Ex.new g))⟩
theorem hrep_pub {a : Addr} {u : HO} (h : HRep K G so H) (e : H a = some u) (g : G a = none) (s : so ≠ some a) : HRep K (upd G a u) so H :=
  ⟨fun b o q => by
    by_cases z : b = a
    · subst z; rw [upd_same] at q; cases q; exact e
    · rw [upd_ne z] at q; exact h.ex b o q,
  fun b q => by
    have z : b ≠ a := fun z => s (z ▸ q)
    exact (h.src b q).keep (Ex.new g) (by rw [upd_ne z]; exact (h.src b q).1) rfl⟩
/-- the slots that hold nothing at a are as they were when a goes into the ground -/
theorem rep_pub {a : Addr} {u : HO} (r : Rep K G so σ H sl) (e : H a = some u) (g : G a = none) (s : so ≠ some a) (n : ¬ Own sl σ a) : Rep K (upd G a u) so σ H sl :=
  ⟨hrep_pub r.h e g s, r.len, fun i d q => by
    obtain ⟨w, e1, e2⟩ := r.slots i d q
    refine ⟨w, e1, e2.keep (Ex.new g) (fun _ _ z _ => z) fun b o ed qb => ?_⟩
    subst ed; subst qb
    have z : b ≠ a := fun z => n ⟨i, o, q, z ▸ e1⟩
    rw [upd_ne z]; exact (r.nown ⟨i, o, q, e1⟩).2.1, r.sep, r.bor, r.nse⟩
theorem PostE.pub (p : PostE K G so σ H sl v H1 G1 dv s1) : ∃ G2, PostE K G so σ H sl v H1 G2 (pubV dv) s1 := by
  cases dv with
  | d x => exact ⟨G1, p⟩
  | src => exact ⟨G1, p⟩
  | bor o => exact ⟨G1, p⟩
  | see o => exact ⟨G1, p⟩
  | own o =>
    obtain ⟨a, q, g, s, ok⟩ := p.val
    subst q
    obtain ⟨u, e, dk⟩ := own_ok ok g
    have n := p.sepv a o (.inl rfl) rfl
    refine ⟨upd G1 a u, { ex := p.ex.trans (Ex.new g), rep := rep_pub p.rep e g s n, keep := p.keep, frm := fun b n1 g1 s1' w => ?_, sub := p.sub, bsub := p.bsub, val := dk, new := fun _ o' e' => (nomatch e'), sepv := fun _ o' e' => e'.elim (fun e' => (nomatch e')) fun e' => (nomatch e'), nbs := fun _ _ _ _ e' => (nomatch e') }⟩
    have z : b ≠ a := fun z => by
      subst z
      rcases p.new b o rfl rfl with k | k
      · exact n1 k
      · exact w k
    rw [upd_ne z]; exact p.frm b n1 g1 s1' w
end

/-! ### names, constants -/
def dC (x : D) : TD := fun sl Q _ => Q (.d x) sl
/-- a name, its list shared from now on -/
def dVar (i : Nat) : TD := fun sl Q _ => match sl[i]? with
  | some (some (.own o)) => Q (.d (pubO o)) (sl.set i (some (.d (pubO o))))
  | some (some dv) => Q dv sl
  | _ => False
/-- a name that is looked at -/
def dSee (i : Nat) : TD := fun sl Q _ => match sl[i]? with
  | some (some (.own o)) => Q (.see o) sl
  | some (some dv) => Q dv sl
  | _ => False
section
variable {K : PySem.W.Frag} {W : WX} {G G1 G2 : Hp} {so : Option Addr} {σ : L2.St} {H H1 H2 : Hp} {sl s1 s2 : DSt} {v x y : V} {dv dx dy : DV} {E : XP} {X : Cx}
theorem de_c {e : Expr} {u : V} {d : D} (h : PE X e (tC u)) (r : ∀ G, DOk X.K G u d) : DE X W e (dC d) := pe_imp h fun σ H R ⟨G, so, sl, Q, E, rep, q, hq, _⟩ =>
  hq u H G _ sl ((Post.refl rep).thenV (.dat rep.h (r G))) q
theorem de_int {i : Int} {j : Nat} {pos : Pos} : DE X W (.Constant (.int i) j pos) (dC (.int i)) := de_c pe_int fun _ => .int _
theorem de_bl {b : Bool} {j : Nat} {pos : Pos} : DE X W (.Constant (.bool b) j pos) (dC (.bl b)) := de_c pe_bl fun _ => .bl _
theorem de_non {j : Nat} {pos : Pos} : DE X W (.Constant .none j pos) (dC .non) := de_c pe_non fun _ => .non
theorem de_str {x : Str} {j : Nat} {pos : Pos} : DE X W (.Constant (.str x) j pos) (dC (.str x)) := de_c pe_str fun _ => .str _
theorem VOk.see {o : OO} (h : VOk K G so H v (.own o)) : VOk K G so H v (.see o) := by
  obtain ⟨a, q, _, s, k⟩ := h
  exact ⟨a, q, s, k⟩
theorem PostE.here (rep : Rep K G so σ H sl) (w : VOk K G so H v dv) (n : ∀ o, dv ≠ .own o) (m : ∀ a o, dv = .bor o → v = .ref a → ¬ Own sl σ a) : PostE K G so σ H sl v H G dv sl :=
  { Post.refl rep with
    val := w
    new := fun _ o e => absurd e (n o)
    sepv := fun a o e q => e.elim (fun e => absurd e (n o)) fun e => m a o e q
    nbs := fun _ o _ _ e => absurd e (n o) }
theorem own_set {i : Nat} {d : D} {a : Addr} (h : Own (sl.set i (some (.d d))) σ a) : Own sl σ a ∧ σ[i]? ≠ some (some (.ref a)) ∨ (Own sl σ a ∧ ∃ j, j ≠ i ∧ ∃ o, sl[j]? = some (some (.own o)) ∧ σ[j]? = some (some (.ref a))) := by
  obtain ⟨j, o, e1, e2⟩ := h
  have ne : j ≠ i := fun z => by
    subst z
    rw [List.getElem?_set] at e1
    split at e1
    · split at e1 <;> cases e1
    · rename_i k; exact k rfl
  rw [List.getElem?_set_ne ne.symm] at e1
  exact .inr ⟨⟨j, o, e1, e2⟩, j, ne, o, e1, e2⟩
theorem de_var {i : Nat} {n : Str} {pos : Pos} (h : PE X (.Name n pos) (tVar i)) : DE X W (.Name n pos) (dVar i) := pe_imp h fun σ H R ⟨G, so, sl, Q, E, rep, q, hq, _⟩ => by
  unfold dVar at q
  split at q
  · rename_i o e
    obtain ⟨v, e1, w⟩ := rep.slots i _ e
    refine ⟨v, e1, ?_⟩
    obtain ⟨a, qa, g, s, ok⟩ := w
    subst qa
    obtain ⟨u, eu, dk⟩ := own_ok ok g
    have others : ∀ b, Own (sl.set i (some (.d (pubO o)))) σ b → Own sl σ b ∧ b ≠ a := fun b z => by
      rcases own_set z with ⟨k1, k2⟩ | ⟨k1, j, ne, o', k2, k3⟩
      · exact ⟨k1, fun z => k2 (z ▸ e1)⟩
      · exact ⟨k1, fun z => ne (rep.sep j i o' o a k2 e (z ▸ k3) e1)⟩
    refine hq _ H (upd G a u) _ _ ?_ q
    refine { ex := Ex.new g, rep := ⟨hrep_pub rep.h eu g s, by rw [List.length_set]; exact rep.len, fun j d ej => ?_, fun j k o1 o2 b e1' e2' e3 e4 => ?_, fun j o1 b e1' e2' z => ?_, fun j o1 z => ?_⟩, keep := fun _ _ z _ => z, frm := fun b n1 g1 s1 w => ?_, sub := fun b z => (others b z).1, bsub := fun j o1 z => ?_, val := dk, new := fun _ o' e' => (nomatch e'), sepv := fun _ o' e' => e'.elim (fun e' => (nomatch e')) fun e' => (nomatch e'), nbs := fun _ _ _ _ e' => (nomatch e') }
    · by_cases ji : j = i
      · subst ji
        rw [List.getElem?_set] at ej
        split at ej
        · split at ej
          · cases ej; exact ⟨_, e1, dk⟩
          · cases ej
        · rename_i k; exact absurd rfl k
      · rw [List.getElem?_set_ne (Ne.symm ji)] at ej
        obtain ⟨w', f1, f2⟩ := rep.slots j d ej
        refine ⟨w', f1, f2.keep (Ex.new g) (fun _ _ z _ => z) fun b o' ed qb => ?_⟩
        subst ed; subst qb
        have z : b ≠ a := fun z => ji (rep.sep j i o' o a ej e (z ▸ f1) e1)
        rw [upd_ne z]; exact (rep.nown ⟨j, o', ej, f1⟩).2.1
    · have f : ∀ (m : Nat) (o3 : OO), (sl.set i (some (.d (pubO o))))[m]? = some (some (.own o3)) → sl[m]? = some (some (.own o3)) := fun m o3 em => by
        by_cases mi : m = i
        · subst mi
          rw [List.getElem?_set] at em
          split at em
          · split at em <;> cases em
          · rename_i k; exact absurd rfl k
        · rw [List.getElem?_set_ne (Ne.symm mi)] at em; exact em
      exact rep.sep j k o1 o2 b (f _ _ e1') (f _ _ e2') e3 e4
    · have ne : j ≠ i := fun z => by
        subst z
        rw [List.getElem?_set] at e1'
        split at e1'
        · split at e1' <;> cases e1'
        · rename_i k; exact absurd rfl k
      rw [List.getElem?_set_ne (Ne.symm ne)] at e1'
      exact rep.bor j o1 b e1' e2' (others b z).1
    · by_cases ne : j = i
      · subst ne
        rw [List.getElem?_set] at z
        split at z
        · split at z <;> cases z
        · rename_i k; exact absurd rfl k
      · rw [List.getElem?_set_ne (Ne.symm ne)] at z
        exact rep.nse j o1 z
    · have z : b ≠ a := fun z => w ⟨i, o, e, z ▸ e1⟩
      rw [upd_ne z]; exact g1
    · by_cases ne : j = i
      · subst ne
        rw [List.getElem?_set] at z
        split at z
        · split at z <;> cases z
        · rename_i k; exact absurd rfl k
      · rw [List.getElem?_set_ne (Ne.symm ne)] at z
        exact ⟨o1, z⟩
  · rename_i dv no e
    obtain ⟨v, e1, w⟩ := rep.slots i _ e
    exact ⟨v, e1, hq v H G dv sl (.here rep w (fun o z => no o z) fun a o z z2 => by subst z; subst z2; exact rep.bor i o a e e1) q⟩
  · exact q.elim
theorem de_see {i : Nat} {n : Str} {pos : Pos} (h : PE X (.Name n pos) (tVar i)) : DE X W (.Name n pos) (dSee i) := pe_imp h fun σ H R ⟨G, so, sl, Q, E, rep, q, hq, _⟩ => by
  unfold dSee at q
  split at q
  · rename_i o e
    obtain ⟨v, e1, w⟩ := rep.slots i _ e
    exact ⟨v, e1, hq v H G _ sl (.here rep w.see (fun _ z => (nomatch z)) fun _ _ z => (nomatch z)) q⟩
  · rename_i dv no e
    obtain ⟨v, e1, w⟩ := rep.slots i _ e
    exact ⟨v, e1, hq v H G dv sl (.here rep w (fun o z => no o z) fun a o z z2 => by subst z; subst z2; exact rep.bor i o a e e1) q⟩
  · exact q.elim
end

/-! ### operations on values -/
def OpSem (K : PySem.W.Frag) (r : R2) (rd : DV → DV → (DV → Prop) → Prop) : Prop := ∀ (G : Hp) (so : Option Addr) (H : Hp) (x y : V) (dx dy : DV) (Q : DV → Prop) (R : VK), HRep K G so H → VOk K G so H x dx → VOk K G so H y dy → rd dx dy Q →
  (∀ v H' G' dv, PostV K G so H v H' G' dv → Q dv → R v H') → r x y H R
def UnSem (K : PySem.W.Frag) (r : V → Hp → VK → Prop) (rd : DV → (DV → Prop) → Prop) : Prop := ∀ (G : Hp) (so : Option Addr) (H : Hp) (x : V) (dx : DV) (Q : DV → Prop) (R : VK), HRep K G so H → VOk K G so H x dx → rd dx Q →
  (∀ v H' G' dv, PostV K G so H v H' G' dv → Q dv → R v H') → r x H R
def CallSem (K : PySem.W.Frag) (r : List V → Hp → VK → Prop) (rd : List DV → (DV → Prop) → Prop) : Prop := ∀ (G : Hp) (so : Option Addr) (H : Hp) (xs : List V) (dxs : List DV) (Q : DV → Prop) (R : VK), HRep K G so H → VsOk K G so H xs dxs → rd dxs Q →
  (∀ v H' G' dv, PostV K G so H v H' G' dv → Q dv → R v H') → r xs H R
def dOp (rd : DV → DV → (DV → Prop) → Prop) (ta tb : TD) : TD := fun sl Q E => ta sl (fun x s1 => tb s1 (fun y s2 => rd x y fun z => Q z s2) E) E
def dUn (rd : DV → (DV → Prop) → Prop) (ta : TD) : TD := fun sl Q E => ta sl (fun x s1 => rd x fun z => Q z s1) E
def dCB (rd : List DV → (DV → Prop) → Prop) (ta : TDA) : TD := fun sl Q E => ta sl (fun xs s1 => rd xs fun z => Q z s1) E
def dNil : TDA := fun sl Q _ => Q [] sl
def dCons (ta : TD) (tr : TDA) : TDA := fun sl Q E => ta sl (fun x s1 => tr s1 (fun xs s2 => Q (pubV x :: xs) s2) E) E
section
variable {K : PySem.W.Frag} {W : WX} {σ : L2.St} {H : Hp} {R : VK} {ta tb : TD} {X : Cx} {a b e : Expr} {pos : Pos}
theorem up_op {r : R2} {rd : DV → DV → (DV → Prop) → Prop} (hr : OpSem K r rd) (h : up K W (dOp rd ta tb) σ H R) : tOp r (up K W ta) (up K W tb) σ H R := by
  obtain ⟨G, so, sl, Q, E, rep, q, hq, hx⟩ := h
  refine ⟨G, so, sl, _, E, rep, q, fun x H1 G1 dx s1 p1 h1 => ?_, hx⟩
  refine ⟨G1, so, s1, _, E, p1.rep, h1, fun y H2 G2 dy s2 p2 h2 => ?_, hx.step p1.toPost⟩
  exact hr G2 so H2 x y dx dy _ R p2.rep.h (p1.over p2.toPost) p2.val h2 fun v H' G' dv pv hz => hq v H' G' dv s2 ((p1.toPost.trans p2.toPost).thenV pv) hz
theorem up_un {r : V → Hp → VK → Prop} {rd : DV → (DV → Prop) → Prop} (hr : UnSem K r rd) (h : up K W (dUn rd ta) σ H R) : tUn r (up K W ta) σ H R := by
  obtain ⟨G, so, sl, Q, E, rep, q, hq, hx⟩ := h
  refine ⟨G, so, sl, _, E, rep, q, fun x H1 G1 dx s1 p1 h1 => ?_, hx⟩
  exact hr G1 so H1 x dx _ R p1.rep.h p1.val h1 fun v H' G' dv pv hz => hq v H' G' dv s1 (p1.toPost.thenV pv) hz
theorem up_cb {r : List V → Hp → VK → Prop} {rd : List DV → (DV → Prop) → Prop} {t : TDA} (hr : CallSem K r rd) (h : up K W (dCB rd t) σ H R) : tCB r (upA K W t) σ H R := by
  obtain ⟨G, so, sl, Q, E, rep, q, hq, hx⟩ := h
  refine ⟨G, so, sl, _, E, rep, q, fun vs H1 G1 ds s1 p1 w h1 => ?_, hx⟩
  exact hr G1 so H1 vs ds _ R p1.rep.h w h1 fun v H' G' dv pv hz => hq v H' G' dv s1 (p1.thenV pv) hz
theorem da_nil : DA X W [] dNil := pa_imp pa_nil fun σ H R ⟨G, so, sl, Q, E, rep, q, hq, _⟩ => hq [] H G [] sl (.refl rep) .nil q
theorem da_cons {es : List Expr} {tr : TDA} (ha : DE X W e ta) (hr : DA X W es tr) (hs : starEach (e :: es) X.env = (false, eval e X.env) :: starEach es X.env := by rfl) : DA X W (e :: es) (dCons ta tr) := by
  refine pa_imp (pa_cons ha hr hs) fun σ H R ⟨G, so, sl, Q, E, rep, q, hq, hx⟩ => ?_
  refine ⟨G, so, sl, _, E, rep, q, fun x H1 G1 dx s1 p1 h1 => ?_, hx⟩
  obtain ⟨G1', p1'⟩ := p1.pub
  refine ⟨G1', so, s1, _, E, p1'.rep, h1, fun vs H2 G2 ds s2 p2 w h2 => ?_, hx.step p1'.toPost⟩
  exact hq (x :: vs) H2 G2 (pubV dx :: ds) s2 (p1'.toPost.trans p2) (.cons (p1'.over p2) (pubV_not dx) w) h2
theorem de_op {op : Operator} {r : R2} {rd : DV → DV → (DV → Prop) → Prop} (ho : OpR X (binaryOp op) r) (hr : OpSem X.K r rd) (ha : DE X W a ta) (hb : DE X W b tb) : DE X W (.BinOp a op b pos) (dOp rd ta tb) := pe_imp (pe_op ho ha hb) fun _ _ _ h => up_op hr h
theorem de_un {op : UnaryOp} {r : V → Hp → VK → Prop} {rd : DV → (DV → Prop) → Prop} (ho : UnR X (unaryOp op) r) (hr : UnSem X.K r rd) (ha : DE X W a ta) : DE X W (.UnaryOp op a pos) (dUn rd ta) := pe_imp (pe_un ho ha) fun _ _ _ h => up_un hr h
theorem de_cmp {op : CmpOp} {r : R2} {rd : DV → DV → (DV → Prop) → Prop} (ho : OpR X (compareOp op) r) (hr : OpSem X.K r rd) (ha : DE X W a ta) (hb : DE X W b tb) (hm : behindInMarks op b = false) : DE X W (.Compare a [op] [b] pos) (dOp rd ta tb) := pe_imp (pe_cmpR ho ha hb hm) fun _ _ _ h => up_op hr h
theorem de_ix {r : R2} {rd : DV → DV → (DV → Prop) → Prop} (ho : IxR X r) (hr : OpSem X.K r rd) (ha : DE X W a ta) (hb : DE X W b tb) (hs : PlainIx b) : DE X W (.Subscript a b pos) (dOp rd ta tb) := pe_imp (pe_ix ho ha hb hs) fun _ _ _ h => up_op hr h
end
end DL

set_option Elab.async false
set_option linter.all false
set_option maxRecDepth 100000
set_option autoImplicit false
set_option maxHeartbeats 2000000
namespace DL
open PySem PySem.Spec PyProof.Rows L2

/-! ### trees as plain data -/
mutual
def D.py : D → Option PyData
  | .non => some .none
  | .bl b => some (.bool b)
  | .int i => some (.int i)
  | .str x => some (.str x)
  | .lst ds => (D.pyAll ds).map .list
  | .tup ds => (D.pyAll ds).map .tuple
  | .ins _ _ => none
  | .raw _ => none
def D.pyAll : List D → Option (List PyData)
  | [] => some []
  | d :: r => match D.py d, D.pyAll r with
    | some p, some ps => some (p :: ps)
    | _, _ => none
end
/-- a value as a tree -/
def DV.dat : DV → Option D
  | .d x => some x
  | .own o => some (pubO o)
  | .bor o => some (pubO o)
  | .see o => some (pubO o)
  | .src => none
def DV.items : DV → Option (List D)
  | .d (.lst ds) => some ds
  | .own (.lst ds) => some ds
  | .bor (.lst ds) => some ds
  | .see (.lst ds) => some ds
  | _ => none

section
variable {K : PySem.W.Frag} {G H : Hp} {so : Option Addr} {v x y : V} {dv dx dy : DV}
mutual
theorem DOk.dp (e : Ex G H) : ∀ (d : D) (v : V) (p : PyData), DOk K G v d → d.py = some p → Dp K H v p
  | .non, _, _, h, q => by cases h; cases q; exact .non
  | .bl b, _, _, h, q => by cases h; cases q; exact .bl b
  | .int i, _, _, h, q => by cases h; cases q; exact .int i
  | .str x, _, _, h, q => by cases h; cases q; exact .str x
  | .lst ds, _, p, h, q => by
    unfold D.py at q
    cases z : D.pyAll ds with
    | none => rw [z] at q; cases q
    | some ps =>
      rw [z] at q; cases q
      cases h with
      | lst g a => exact .lst (SqL.of (e _ _ g)) (DAll.dp e ds _ ps a z)
  | .tup ds, _, p, h, q => by
    unfold D.py at q
    cases z : D.pyAll ds with
    | none => rw [z] at q; cases q
    | some ps =>
      rw [z] at q; cases q
      cases h with
      | tup g a => exact .tup (ex_t e g) (DAll.dp e ds _ ps a z)
  | .ins _ _, _, _, _, q => by cases q
  | .raw _, _, _, _, q => by cases q
theorem DAll.dp (e : Ex G H) : ∀ (ds : List D) (vs : List V) (ps : List PyData), DAll K G vs ds → D.pyAll ds = some ps → DpAll K H vs ps
  | [], _, _, h, q => by cases h; cases q; exact .nil
  | d :: r, _, ps, h, q => by
    cases h with
    | cons h1 h2 =>
      unfold D.pyAll at q
      cases z1 : D.py d with
      | none => rw [z1] at q; cases q
      | some p =>
        cases z2 : D.pyAll r with
        | none => rw [z1, z2] at q; cases q
        | some qs =>
          rw [z1, z2] at q; cases q
          exact .cons (DOk.dp e d _ p h1 z1) (DAll.dp e r _ qs h2 z2)
end
theorem VOk.dp {d : D} {p : PyData} (h : HRep K G so H) (w : VOk K G so H v dv) (e : dv.dat = some d) (q : d.py = some p) : Dp K H v p := by
  cases dv with
  | d z => cases e; exact DOk.dp h.ex _ _ _ w q
  | src => cases e
  | own o =>
    cases e
    obtain ⟨a, rfl, _, _, ok⟩ := w
    cases o with
    | lst ds =>
      obtain ⟨vs, e1, al⟩ := ok
      unfold pubO D.py at q
      cases z : D.pyAll ds with
      | none => rw [z] at q; cases q
      | some ps => rw [z] at q; cases q; exact .lst (SqL.of e1) (DAll.dp h.ex ds _ ps al z)
    | ins x C fs => unfold pubO D.py at q; cases q
  | bor o =>
    cases e
    obtain ⟨a, rfl, _, ok⟩ := w
    cases o with
    | lst ds =>
      obtain ⟨vs, e1, al⟩ := ok
      unfold pubO D.py at q
      cases z : D.pyAll ds with
      | none => rw [z] at q; cases q
      | some ps => rw [z] at q; cases q; exact .lst (SqL.of e1) (DAll.dp h.ex ds _ ps al z)
    | ins x C fs => unfold pubO D.py at q; cases q
  | see o =>
    cases e
    obtain ⟨a, rfl, _, ok⟩ := w
    cases o with
    | lst ds =>
      obtain ⟨vs, e1, al⟩ := ok
      unfold pubO D.py at q
      cases z : D.pyAll ds with
      | none => rw [z] at q; cases q
      | some ps => rw [z] at q; cases q; exact .lst (SqL.of e1) (DAll.dp h.ex ds _ ps al z)
    | ins x C fs => unfold pubO D.py at q; cases q
theorem VOk.list {ds : List D} (h : HRep K G so H) (w : VOk K G so H v dv) (e : dv.items = some ds) : ∃ a vs, v = .ref a ∧ H a = some (.lst vs) ∧ DAll K G vs ds := by
  unfold DV.items at e
  split at e
  · cases e
    cases w with
    | lst g a => exact ⟨_, _, rfl, h.ex _ _ g, a⟩
  · cases e
    obtain ⟨a, rfl, _, _, vs, e1, al⟩ := w
    exact ⟨a, vs, rfl, e1, al⟩
  · cases e
    obtain ⟨a, rfl, _, vs, e1, al⟩ := w
    exact ⟨a, vs, rfl, e1, al⟩
  · cases e
    obtain ⟨a, rfl, _, vs, e1, al⟩ := w
    exact ⟨a, vs, rfl, e1, al⟩
  · cases e
theorem VOk.tup {ds : List D} (h : HRep K G so H) (w : VOk K G so H v (.d (.tup ds))) : ∃ a vs, v = .ref a ∧ SqT K H a vs ∧ DAll K G vs ds := by
  cases w with
  | tup g a => exact ⟨_, _, rfl, ex_t h.ex g, a⟩
end

/-! ### arithmetic -/
abbrev szl : Nat := 16777216
theorem szl_eq : szl = sizeLine := by rw [sizeLine_eq]
@[irreducible] def addR : DV → DV → (DV → Prop) → Prop
  | .d (.int i), .d (.int j), Q => Q (.d (.int (i + j)))
  | .d (.str a), .d (.str b), Q => a.length + b.length ≤ szl ∧ Q (.d (.str (a ++ b)))
  | .d (.tup a), .d (.tup b), Q => a.length + b.length ≤ szl ∧ Q (.d (.tup (a ++ b)))
  | x, y, Q => match x.items, y.items with
    | some a, some b => a.length + b.length ≤ szl ∧ Q (.own (.lst (a ++ b)))
    | _, _ => False
@[irreducible] def intR (C : Int → Int → Prop) (f : Int → Int → D) : DV → DV → (DV → Prop) → Prop
  | .d (.int i), .d (.int j), Q => C i j ∧ Q (.d (f i j))
  | _, _, _ => False
@[irreducible] def intR0 (f : Int → Int → D) : DV → DV → (DV → Prop) → Prop
  | .d (.int i), .d (.int j), Q => Q (.d (f i j))
  | _, _, _ => False
@[irreducible] def negR : DV → (DV → Prop) → Prop
  | .d (.int i), Q => Q (.d (.int (-i)))
  | _, _ => False
section
variable {K : PySem.W.Frag} {X : Cx} {W : WX} {a b : Expr} {ta tb : TD} {pos : Pos}
theorem sem_intR {C : Int → Int → Prop} {f : Int → Int → D} {g : Int → Int → V} (hg : ∀ G i j, DOk K G (g i j) (f i j)) : OpSem K (rI C g) (intR C f) := by
  intro G so H x y dx dy Q R h wx wy q k
  unfold intR at q
  split at q
  · cases wx; cases wy; exact ⟨_, _, rfl, rfl, q.1, k _ H G _ (.dat h (hg G _ _)) q.2⟩
  · exact q.elim
theorem sem_intR0 {f : Int → Int → D} {g : Int → Int → V} (hg : ∀ G i j, DOk K G (g i j) (f i j)) : OpSem K (rI0 g) (intR0 f) := by
  intro G so H x y dx dy Q R h wx wy q k
  unfold intR0 at q
  split at q
  · cases wx; cases wy; exact ⟨_, _, rfl, rfl, k _ H G _ (.dat h (hg G _ _)) q⟩
  · exact q.elim
def rAddS1 : R2 := fun x y H Q => ∃ i j, x = .str i ∧ y = .str j ∧ i.length + j.length ≤ sizeLine ∧ Q (.str (i ++ j)) H
def rAddAll (K : PySem.W.Frag) : R2 := fun x y H Q => (rI0 fun i j => .int (i + j)) x y H Q ∨ (rAddS1 x y H Q ∨ (rCatA K x y H Q ∨ rCat x y H Q))
theorem op_addAll : OpR X (binaryOp .Add) (rAddAll X.K) := OpR.or op_add (OpR.or op_add_str (OpR.or op_catA op_cat))
theorem sem_add : OpSem K (rAddAll K) addR := by
  intro G so H x y dx dy Q R h wx wy q k
  unfold addR at q
  split at q
  · cases wx; cases wy; exact .inl ⟨_, _, rfl, rfl, k _ H G _ (.dat h (.int _)) q⟩
  · cases wx; cases wy; exact .inr (.inl ⟨_, _, rfl, rfl, by rw [← szl_eq]; exact q.1, k _ H G _ (.dat h (.str _)) q.2⟩)
  · obtain ⟨a, vs, rfl, g1, a1⟩ := VOk.tup h wx
    obtain ⟨b, ws, rfl, g2, a2⟩ := VOk.tup h wy
    refine .inr (.inr (.inl ⟨a, b, vs, ws, rfl, rfl, g1, g2, ?_, fun z => ?_, fun _ z => ?_, fun _ _ p n => ?_⟩))
    · rw [a1.length, a2.length, ← szl_eq]; exact q.1
    · subst z; cases a1; exact k _ H G _ (.dat h (by have w : DOk K G _ _ := wy; simpa using w)) q.2
    · subst z; cases a2; exact k _ H G _ (.dat h (by have w : DOk K G _ _ := wx; simpa using w)) q.2
    · exact k _ _ _ _ (.tuple h n (a1.append a2)) q.2
  · split at q
    · rename_i e1 e2
      obtain ⟨a, vs, rfl, g1, a1⟩ := VOk.list h wx e1
      obtain ⟨b, ws, rfl, g2, a2⟩ := VOk.list h wy e2
      refine .inr (.inr (.inr ⟨a, b, vs, ws, rfl, rfl, g1, g2, ?_, fun p n => ?_⟩))
      · rw [a1.length, a2.length, ← szl_eq]; exact q.1
      · exact k _ _ _ _ (.list h n (a1.append a2)) q.2
    · exact q.elim
theorem de_add (ha : DE X W a ta) (hb : DE X W b tb) : DE X W (.BinOp a .Add b pos) (dOp addR ta tb) := de_op op_addAll sem_add ha hb
theorem de_sub (ha : DE X W a ta) (hb : DE X W b tb) : DE X W (.BinOp a .Sub b pos) (dOp (intR0 fun i j => .int (i - j)) ta tb) := de_op op_sub (sem_intR0 fun _ _ _ => .int _) ha hb
theorem de_mod (ha : DE X W a ta) (hb : DE X W b tb) : DE X W (.BinOp a .Mod b pos) (dOp (intR (fun _ j => 0 < j) fun i j => .int (i % j)) ta tb) := de_op op_mod (sem_intR fun _ _ _ => .int _) ha hb
theorem de_fdiv (ha : DE X W a ta) (hb : DE X W b tb) : DE X W (.BinOp a .FloorDiv b pos) (dOp (intR CDivW fun i j => .int (i / j)) ta tb) := de_op op_fdivW (sem_intR fun _ _ _ => .int _) ha hb
theorem de_pow (ha : DE X W a ta) (hb : DE X W b tb) : DE X W (.BinOp a .Pow b pos) (dOp (intR CPow fun i j => .int (i ^ j.toNat)) ta tb) := de_op op_pow (sem_intR fun _ _ _ => .int _) ha hb
theorem sem_neg : UnSem K (rU fun i => .int (-i)) negR := by
  intro G so H x dx Q R h wx q k
  unfold negR at q
  split at q
  · cases wx; exact ⟨_, rfl, k _ H G _ (.dat h (.int _)) q⟩
  · exact q.elim
theorem de_neg (ha : DE X W a ta) : DE X W (.UnaryOp .USub a pos) (dUn negR ta) := de_un un_neg sem_neg ha

/-! ### * : ints, a list some times -/
@[irreducible] def mulR : DV → DV → (DV → Prop) → Prop
  | .d (.int i), .d (.int j), Q => CMulW i j ∧ Q (.d (.int (i * j)))
  | x, .d (.int k), Q => match x.items with
    | some a => -(2 ^ 63) ≤ k ∧ k < 2 ^ 63 ∧ a.length * k.toNat ≤ szl ∧ Q (.own (.lst (List.replicate k.toNat a).flatten))
    | _ => False
  | _, _, _ => False
/-! ### comparisons -/
@[irreducible] def eqDeep (neg : Bool) : DV → DV → (DV → Prop) → Prop := fun x y Q => match x.dat, y.dat with
  | some a, some b => match a.py, b.py with
    | some p, some q => SeqAt.shaped p = true ∧ SeqAt.shaped q = true ∧ Q (.d (.bl (if neg then !PyData.eqv p q else PyData.eqv p q)))
    | _, _ => False
  | _, _ => False
@[irreducible] def eqR (neg : Bool) : DV → DV → (DV → Prop) → Prop
  | .d (.int i), .d (.int j), Q => Q (.d (.bl (if neg then !decide (i = j) else decide (i = j))))
  | .d (.str i), .d (.str j), Q => Q (.d (.bl (if neg then !decide (i = j) else decide (i = j))))
  | .d (.bl i), .d (.bl j), Q => Q (.d (.bl (if neg then !decide (i = j) else decide (i = j))))
  | x, y, Q => eqDeep neg x y Q
def rEqAll (K : PySem.W.Frag) : R2 := fun x y H Q => rEq x y H Q ∨ rEqD K x y H Q
def rNeAll (K : PySem.W.Frag) : R2 := fun x y H Q => rNe x y H Q ∨ rNeD K x y H Q
theorem op_eqAll (hu : X.A.units + 64 < cLine) : OpR X (compareOp .Eq) (rEqAll X.K) := OpR.or op_eq (op_eqD hu)
theorem op_neAll (hu : X.A.units + 64 < cLine) : OpR X (compareOp .NotEq) (rNeAll X.K) := OpR.or op_ne (op_neD hu)
theorem decI {i j : Int} : decide (V.int i = V.int j) = decide (i = j) := by
  by_cases h : i = j
  · subst h; simp
  · simp [h]
theorem decS {i j : Str} : decide (V.str i = V.str j) = decide (i = j) := by
  by_cases h : i = j
  · subst h; simp
  · simp [h]
theorem decB {i j : Bool} : decide (V.bl i = V.bl j) = decide (i = j) := by
  by_cases h : i = j
  · subst h; simp
  · simp [h]
theorem sem_eq : OpSem K (rEqAll K) (eqR false) := by
  intro G so H x y dx dy Q R h wx wy q k
  unfold eqR at q
  split at q
  · cases wx; cases wy
    exact .inl ⟨rfl, by rw [decI]; exact k _ H G _ (.dat h (.bl _)) q⟩
  · cases wx; cases wy
    exact .inl ⟨rfl, by rw [decS]; exact k _ H G _ (.dat h (.bl _)) q⟩
  · cases wx; cases wy
    exact .inl ⟨rfl, by rw [decB]; exact k _ H G _ (.dat h (.bl _)) q⟩
  · unfold eqDeep at q
    split at q
    · rename_i d e e1 e2
      split at q
      · rename_i p p' e3 e4
        exact .inr ⟨p, p', wx.dp h e1 e3, wy.dp h e2 e4, q.1, q.2.1, k _ H G _ (.dat h (.bl _)) q.2.2⟩
      · exact q.elim
    · exact q.elim
theorem sem_ne : OpSem K (rNeAll K) (eqR true) := by
  intro G so H x y dx dy Q R h wx wy q k
  unfold eqR at q
  split at q
  · cases wx; cases wy
    exact .inl ⟨rfl, by rw [decI]; exact k _ H G _ (.dat h (.bl _)) q⟩
  · cases wx; cases wy
    exact .inl ⟨rfl, by rw [decS]; exact k _ H G _ (.dat h (.bl _)) q⟩
  · cases wx; cases wy
    exact .inl ⟨rfl, by rw [decB]; exact k _ H G _ (.dat h (.bl _)) q⟩
  · unfold eqDeep at q
    split at q
    · rename_i d e e1 e2
      split at q
      · rename_i p p' e3 e4
        exact .inr ⟨p, p', wx.dp h e1 e3, wy.dp h e2 e4, q.1, q.2.1, k _ H G _ (.dat h (.bl _)) q.2.2⟩
      · exact q.elim
    · exact q.elim
end
end DL

set_option Elab.async false
set_option linter.all false
set_option maxRecDepth 100000
set_option autoImplicit false
set_option maxHeartbeats 2000000
namespace DL
open PySem PySem.Spec PyProof.Rows L2

/-- both ways of a test -/
@[irreducible] def Br (b : Bool) (A B : Prop) : Prop := (b = true → A) ∧ (b = false → B)

theorem brt {A B : Prop} (h : Br true A B) : A := by
  unfold Br at h; exact h.1 rfl
theorem brf {A B : Prop} (h : Br false A B) : B := by
  unfold Br at h; exact h.2 rfl
theorem br {b : Bool} {A B : Prop} (h1 : b = true → A) (h2 : b = false → B) : Br b A B := by
  unfold Br; exact ⟨h1, h2⟩
theorem brT {A B : Prop} (h : A) : Br true A B := br (fun _ => h) fun z => (nomatch z)
theorem brF {A B : Prop} (h : B) : Br false A B := br (fun z => (nomatch z)) fun _ => h

/-! ### statements: the slots may change -/
structure PostS (K : PySem.W.Frag) (G : Hp) (so : Option Addr) (σ : L2.St) (H : Hp) (sl : DSt) (σ' : L2.St) (H' G' : Hp) (sl' : DSt) : Prop where
  ex : Ex G G'
  rep : Rep K G' so σ' H' sl'
  keep : ∀ a o, H a = some o → so ≠ some a → ¬ Own sl σ a → H' a = some o
  frm : ∀ a, H a ≠ none → G a = none → so ≠ some a → ¬ Own sl σ a → G' a = none
  sub : ∀ a, H a ≠ none → so ≠ some a → ¬ Own sl σ a → ¬ Own sl' σ' a
  ln : σ'.length = σ.length
structure PostR (K : PySem.W.Frag) (G : Hp) (so : Option Addr) (σ : L2.St) (H : Hp) (sl : DSt) (v : V) (H' G' : Hp) (dv : DV) : Prop where
  ex : Ex G G'
  hrep : HRep K G' so H'
  keep : ∀ a o, H a = some o → so ≠ some a → ¬ Own sl σ a → H' a = some o
  frm : ∀ a, H a ≠ none → G a = none → so ≠ some a → ¬ Own sl σ a → G' a = none
  val : VOk K G' so H' v dv
  new : ∀ a o, dv = .own o → v = .ref a → H a = none ∨ Own sl σ a
def XOkS (K : PySem.W.Frag) (W : WX) (G : Hp) (so : Option Addr) (σ : L2.St) (H : Hp) (sl : DSt) (E : XP) : Prop :=
  ∀ cls d σ' H' G' fs sl', PostS K G so σ H sl σ' H' G' sl' → XdOk K G' H' d fs → E cls fs sl' → W cls d σ' H'

section
variable {K : PySem.W.Frag} {W : WX} {G G1 G2 : Hp} {so : Option Addr} {σ σ1 σ2 : L2.St} {H H1 H2 : Hp} {sl s1 s2 : DSt} {v x y : V} {dv dx dy : DV} {E : XP}
theorem Post.s (p : Post K G so σ H sl H1 G1 s1) : PostS K G so σ H sl σ H1 G1 s1 := ⟨p.ex, p.rep, fun a o e s _ => p.keep a o e s, p.frm, fun a _ _ w z => w (p.sub a z), rfl⟩
theorem PostS.refl (r : Rep K G so σ H sl) : PostS K G so σ H sl σ H G sl := (Post.refl r).s
theorem PostS.trans (a : PostS K G so σ H sl σ1 H1 G1 s1) (b : PostS K G1 so σ1 H1 s1 σ2 H2 G2 s2) : PostS K G so σ H sl σ2 H2 G2 s2 :=
  ⟨a.ex.trans b.ex, b.rep, fun c o e s w => b.keep c o (a.keep c o e s w) s (a.sub c (by rw [e]; simp) s w), fun c n g s w => by
    obtain ⟨o, e⟩ := Option.ne_none_iff_exists'.mp n
    exact b.frm c (by rw [a.keep c o e s w]; simp) (a.frm c n g s w) s (a.sub c n s w), fun c n s w => by
    obtain ⟨o, e⟩ := Option.ne_none_iff_exists'.mp n
    exact b.sub c (by rw [a.keep c o e s w]; simp) s (a.sub c n s w), b.ln.trans a.ln⟩
theorem PostS.back (a : PostS K G so σ H sl σ1 H1 G1 s1) {c : Addr} (n : H1 c = none ∨ Own s1 σ1 c) : H c = none ∨ Own sl σ c := by
  by_cases w : Own sl σ c
  · exact .inr w
  · refine .inl ?_
    cases z : H c with
    | none => rfl
    | some u =>
      by_cases s : so = some c
      · rcases n with n | n
        · exact absurd s (a.rep.h.there n)
        · exact absurd s (a.rep.nown n).2.2
      · rcases n with n | n
        · rw [a.keep c u z s w] at n; cases n
        · exact absurd n (a.sub c (by rw [z]; simp) s w)
theorem PostS.thenE (a : PostS K G so σ H sl σ1 H1 G1 s1) (b : PostE K G1 so σ1 H1 s1 v H2 G2 dv s2) : PostR K G so σ H sl v H2 G2 dv := by
  have t := a.trans b.toPost.s
  exact ⟨t.ex, t.rep.h, t.keep, t.frm, b.val, fun c o e q => a.back (b.new c o e q)⟩
theorem PostS.thenR (a : PostS K G so σ H sl σ1 H1 G1 s1) (b : PostR K G1 so σ1 H1 s1 v H2 G2 dv) : PostR K G so σ H sl v H2 G2 dv :=
  ⟨a.ex.trans b.ex, b.hrep, fun c o e s w => b.keep c o (a.keep c o e s w) s (a.sub c (by rw [e]; simp) s w), fun c n g s w => by
    obtain ⟨o, e⟩ := Option.ne_none_iff_exists'.mp n
    exact b.frm c (by rw [a.keep c o e s w]; simp) (a.frm c n g s w) s (a.sub c n s w), b.val, fun c o e q => a.back (b.new c o e q)⟩
theorem XOkS.ex (h : XOkS K W G so σ H sl E) : XOk K W G so σ H sl E := fun cls d H' G' fs sl' q a b => h cls d σ H' G' fs sl' q.s a b
theorem XOkS.step (h : XOkS K W G so σ H sl E) (p : PostS K G so σ H sl σ1 H1 G1 s1) : XOkS K W G1 so σ1 H1 s1 E := fun cls d σ' H' G' fs sl' q a b => h cls d σ' H' G' fs sl' (p.trans q) a b
end

/-- what is wanted behind a statement, below and above -/
structure EOk (K : PySem.W.Frag) (W : WX) (G : Hp) (so : Option Addr) (σ : L2.St) (H : Hp) (sl : DSt) (E : EndsD) (D : Ends) : Prop where
  nx : ∀ σ' H' G' sl', PostS K G so σ H sl σ' H' G' sl' → E.nx sl' → D.nx σ' H'
  bk : ∀ σ' H' G' sl', PostS K G so σ H sl σ' H' G' sl' → E.bk sl' → D.bk σ' H'
  ct : ∀ σ' H' G' sl', PostS K G so σ H sl σ' H' G' sl' → E.ct sl' → D.ct σ' H'
  rt : ∀ v H' G' dv, PostR K G so σ H sl v H' G' dv → E.rt dv → D.rt v H'
  xc : XOkS K W G so σ H sl E.xc
theorem EOk.step {K : PySem.W.Frag} {W : WX} {G G1 : Hp} {so : Option Addr} {σ σ1 : L2.St} {H H1 : Hp} {sl s1 : DSt} {E : EndsD} {D : Ends} (h : EOk K W G so σ H sl E D) (p : PostS K G so σ H sl σ1 H1 G1 s1) : EOk K W G1 so σ1 H1 s1 E D :=
  ⟨fun a b c d q => h.nx a b c d (p.trans q), fun a b c d q => h.bk a b c d (p.trans q), fun a b c d q => h.ct a b c d (p.trans q), fun a b c d q => h.rt a b c d (p.thenR q), h.xc.step p⟩
def upS (K : PySem.W.Frag) (W : WX) (t : TDS) : TS := fun D σ H => ∃ G so sl E, Rep K G so σ H sl ∧ t E sl ∧ EOk K W G so σ H sl E D
def DS (X : Cx) (W : WX) (st : Stmt) (t : TDS) : Prop := PS X st (upS X.K W t)
def DSs (X : Cx) (W : WX) (sts : List Stmt) (t : TDS) : Prop := PSs X sts (upS X.K W t)

def dNext : TDS := fun E sl => E.nx sl
def dSeq (t u : TDS) : TDS := fun E sl => t { E with nx := u E } sl
def dBreak : TDS := fun E sl => E.bk sl
def dCont : TDS := fun E sl => E.ct sl
def dSet (te : TD) (i : Nat) : TDS := fun E sl => te sl (fun x s1 => match x with
  | .see _ => False
  | y => E.nx (s1.set i (some y))) E.xc
def dRet (te : TD) : TDS := fun E sl => te sl (fun x _ => E.rt x) E.xc
def dRetN : TDS := fun E _ => E.rt (.d .non)
def dDrop (te : TD) : TDS := fun E sl => te sl (fun _ s1 => E.nx s1) E.xc
def dIf (c : TDT) (t u : TDS) : TDS := fun E sl => c sl (fun b s1 => Br b (t E s1) (u E s1)) E.xc
def dNever : TDS := fun _ _ => False

section
variable {X : Cx} {W : WX} {st : Stmt} {rest body orelse : List Stmt} {t u : TDS} {e c a b : Expr} {te ta tb : TD} {tc td : TDT} {pos : Pos}
theorem ds_nil : DSs X W [] dNext := pss_imp pss_nil fun D σ H ⟨G, so, sl, E, rep, q, ok⟩ => ok.nx σ H G sl (.refl rep) q
theorem ds_cons (h1 : DS X W st t) (h2 : DSs X W rest u) : DSs X W (st :: rest) (dSeq t u) := pss_imp (pss_cons h1 h2) fun D σ H ⟨G, so, sl, E, rep, q, ok⟩ =>
  ⟨G, so, sl, _, rep, q, ⟨fun σ1 H1 G1 s1 p q1 => ⟨G1, so, s1, E, p.rep, q1, ok.step p⟩, ok.bk, ok.ct, ok.rt, ok.xc⟩⟩
theorem ds_one (h1 : DS X W st t) : DSs X W [st] t := pss_one h1
theorem ds_pass : DS X W (.Pass pos) dNext := ps_imp ps_pass fun D σ H ⟨G, so, sl, E, rep, q, ok⟩ => ok.nx σ H G sl (.refl rep) q
theorem ds_break : DS X W (.Break pos) dBreak := ps_imp ps_break fun D σ H ⟨G, so, sl, E, rep, q, ok⟩ => ok.bk σ H G sl (.refl rep) q
theorem ds_continue : DS X W (.Continue pos) dCont := ps_imp ps_continue fun D σ H ⟨G, so, sl, E, rep, q, ok⟩ => ok.ct σ H G sl (.refl rep) q
theorem ds_never : DS X W st dNever := ps_imp ps_never fun D σ H ⟨G, so, sl, E, rep, q, ok⟩ => q
theorem dss_never : DSs X W rest dNever := pss_imp pss_never fun D σ H ⟨G, so, sl, E, rep, q, ok⟩ => q
theorem ds_ret (h : DE X W e te) : DS X W (.Return (some e) pos) (dRet te) := ps_imp (ps_ret h) fun D σ H ⟨G, so, sl, E, rep, q, ok⟩ =>
  ⟨G, so, sl, _, E.xc, rep, q, fun v H1 G1 dv s1 p q1 => ok.rt v H1 G1 dv ((PostS.refl rep).thenE p) q1, ok.xc.ex⟩
theorem ds_retN : DS X W (.Return none pos) dRetN := ps_imp ps_retN fun D σ H ⟨G, so, sl, E, rep, q, ok⟩ => ok.rt .non H G (.d .non) ((PostS.refl rep).thenE (.here rep .non (fun _ z => (nomatch z)) fun _ _ z => (nomatch z))) q
theorem ds_expr (h : DE X W e te) (hs : swapsWith e none pos.line X.env = pure false := by rfl) : DS X W (.Expr e pos) (dDrop te) := ps_imp (ps_expr h hs) fun D σ H ⟨G, so, sl, E, rep, q, ok⟩ =>
  ⟨G, so, sl, _, E.xc, rep, q, fun v H1 G1 dv s1 p q1 => ok.nx σ H1 G1 s1 p.toPost.s q1, ok.xc.ex⟩
theorem ds_if (hc : DT X W c tc) (h1 : DSs X W body t) (h2 : DSs X W orelse u) : DS X W (.If c body orelse pos) (dIf tc t u) := ps_imp (ps_if hc h1 h2) fun D σ H ⟨G, so, sl, E, rep, q, ok⟩ => by
  refine ⟨G, so, sl, _, E.xc, rep, q, fun k H1 G1 s1 p q1 => ?_, ok.xc.ex⟩
  cases k with
  | true => rw [if_pos rfl]; exact ⟨G1, so, s1, E, p.rep, (brt q1), ok.step p.s⟩
  | false => rw [if_neg Bool.false_ne_true]; exact ⟨G1, so, s1, E, p.rep, (brf q1), ok.step p.s⟩
end

/-! ### a slot is set -/
section
variable {K : PySem.W.Frag} {W : WX} {G G1 G2 : Hp} {so : Option Addr} {σ σ1 σ2 : L2.St} {H H1 H2 : Hp} {sl s1 s2 : DSt} {v x y : V} {dv dx dy : DV} {E : XP}
theorem get_set {α : Type} {l : List α} {i j : Nat} {x y : α} (h : (l.set i x)[j]? = some y) : (j = i ∧ y = x) ∨ (j ≠ i ∧ l[j]? = some y) := by
  by_cases ji : j = i
  · subst ji
    rw [List.getElem?_set] at h
    split at h
    · split at h
      · cases h; exact .inl ⟨rfl, rfl⟩
      · cases h
    · rename_i k; exact absurd rfl k
  · rw [List.getElem?_set_ne (Ne.symm ji)] at h
    exact .inr ⟨ji, h⟩
theorem set_slot {i : Nat} (hi : i < σ.length) (ns : ∀ o, dv ≠ .see o) (rep : Rep K G so σ H sl) (w : VOk K G so H v dv) (n : ∀ a o, dv = .own o ∨ dv = .bor o → v = .ref a → ¬ Own sl σ a) (nb : ∀ (a : Addr) (o : OO) (i' : Nat) (o' : OO), dv = .own o → v = .ref a → sl[i']? = some (some (.bor o')) → σ[i']? = some (some (.ref a)) → False) (new : ∀ a o, dv = .own o → v = .ref a → H1 a = none ∨ Own s1 σ1 a)
    (sub : ∀ a, H1 a ≠ none → so ≠ some a → ¬ Own s1 σ1 a → ¬ Own sl σ a) :
    Rep K G so (σ.set i (some v)) H (sl.set i (some dv)) ∧ ∀ a, H1 a ≠ none → so ≠ some a → ¬ Own s1 σ1 a → ¬ Own (sl.set i (some dv)) (σ.set i (some v)) a := by
  have hl : i < sl.length := by rw [rep.len]; exact hi
  have self : (σ.set i (some v))[i]? = some (some v) := List.getElem?_set_self hi
  have other : ∀ {j : Nat}, j ≠ i → (σ.set i (some v))[j]? = σ[j]? := fun ne => List.getElem?_set_ne (Ne.symm ne)
  refine ⟨⟨rep.h, by rw [List.length_set, List.length_set]; exact rep.len, fun j d q => ?_, fun j k o o' a q1 q2 q3 q4 => ?_, fun j o a q1 q2 z => ?_, fun j o z => ?_⟩, fun a n1 sa w1 z => ?_⟩
  · rcases get_set q with ⟨rfl, e⟩ | ⟨ne, e⟩
    · cases e; exact ⟨v, self, w⟩
    · obtain ⟨w', e1, e2⟩ := rep.slots j d e
      exact ⟨w', by rw [other ne]; exact e1, e2⟩
  · rcases get_set q1 with ⟨rfl, e1⟩ | ⟨ne1, e1⟩
    · cases e1
      rw [self] at q3; cases q3
      rcases get_set q2 with ⟨rfl, e2⟩ | ⟨ne2, e2⟩
      · rfl
      · rw [other ne2] at q4
        exact absurd ⟨k, o', e2, q4⟩ (n a o (.inl rfl) rfl)
    · rw [other ne1] at q3
      rcases get_set q2 with ⟨rfl, e2⟩ | ⟨ne2, e2⟩
      · cases e2
        rw [self] at q4; cases q4
        exact absurd ⟨j, o, e1, q3⟩ (n a o' (.inl rfl) rfl)
      · rw [other ne2] at q4
        exact rep.sep j k o o' a e1 e2 q3 q4
  · obtain ⟨m, o', e1, e2⟩ := z
    rcases get_set q1 with ⟨rfl, f1⟩ | ⟨ne1, f1⟩
    · cases f1
      rw [self] at q2; cases q2
      rcases get_set e1 with ⟨rfl, f2⟩ | ⟨ne2, f2⟩
      · cases f2
      · rw [other ne2] at e2
        exact n a o (.inr rfl) rfl ⟨m, o', f2, e2⟩
    · rw [other ne1] at q2
      rcases get_set e1 with ⟨rfl, f2⟩ | ⟨ne2, f2⟩
      · cases f2
        rw [self] at e2; cases e2
        exact nb a o' j o rfl rfl f1 q2
      · rw [other ne2] at e2
        exact rep.bor j o a f1 q2 ⟨m, o', f2, e2⟩
  · rcases get_set z with ⟨rfl, e⟩ | ⟨ne, e⟩
    · cases e; exact ns o rfl
    · exact rep.nse j o e
  · obtain ⟨j, o, e1, e2⟩ := z
    rcases get_set e1 with ⟨rfl, e⟩ | ⟨ne, e⟩
    · cases e
      rw [self] at e2; cases e2
      rcases new a o rfl rfl with k | k
      · exact n1 k
      · exact w1 k
    · rw [other ne] at e2
      exact sub a n1 sa w1 ⟨j, o, e, e2⟩
theorem PostE.set {i : Nat} (hi : i < σ.length) (ns : ∀ o, dv ≠ .see o) (p : PostE K G so σ H sl v H1 G1 dv s1) : PostS K G so σ H sl (σ.set i (some v)) H1 G1 (s1.set i (some dv)) := by
  have bf : ∀ (a : Addr) (o : OO) (i' : Nat) (o' : OO), dv = .own o → v = .ref a → s1[i']? = some (some (.bor o')) → σ[i']? = some (some (.ref a)) → False := fun a o i' o' e q e1 e2 => p.nbs a o i' o' e q e1 e2
  obtain ⟨r, s⟩ := set_slot (H1 := H) (s1 := sl) (σ1 := σ) hi ns p.rep p.val (fun a o e q => p.sepv a o e q) bf (fun a o e q => p.new a o e q) fun a _ _ w z => w (p.sub a z)
  exact ⟨p.ex, r, fun a o e sa _ => p.keep a o e sa, p.frm, s, List.length_set⟩
end
section
variable {X : Cx} {W : WX} {e : Expr} {te : TD} {pos pos' : Pos} {i : Nat} {x : Str}
theorem up_set {K : PySem.W.Frag} {D : Ends} {σ : L2.St} {H : Hp} (hi : ∀ {G so sl}, Rep K G so σ H sl → i < σ.length) (h : upS K W (dSet te i) D σ H) : tAsg (up K W te) (gName i) D σ H := by
  obtain ⟨G, so, sl, E, rep, q, ok⟩ := h
  refine ⟨G, so, sl, _, E.xc, rep, q, fun v H1 G1 dv s1 p q1 => ?_, ok.xc.ex⟩
  split at q1
  · exact q1.elim
  · rename_i ns
    exact ok.nx _ H1 G1 _ (p.set (hi rep) fun o z => ns o z) q1
/-- the slots are as many as the names -/
theorem ps_len {st : Stmt} {t t' : TS} (h : PS X st t) (f : ∀ D σ H, σ.length = X.N.length → t' D σ H → t D σ H) : PS X st t' := ⟨fun pins s σ H Q I q => h.run pins s σ H Q I (f _ _ _ I.len q)⟩
theorem ds_set (hN : X.N.Nodup) (hi : X.N[i]? = some x) (hx : Loc X.env.scope x) (he : DE X W e te) (hs : swapsWith e (some (.Name x pos')) pos.line X.env = pure false := by rfl) (hf : X.fn x = true ∨ X.env.scope.names.lookup x = some .local := by first | exact .inl rfl | exact .inr rfl | assumption) :
    DS X W (.Assign [.Name x pos'] e pos) (dSet te i) := ps_len (ps_set hN hi hx he hs hf) fun D σ H hl h => up_set (fun _ => by rw [hl]; exact (List.getElem?_eq_some_iff.mp hi).1) h
end
end DL

set_option Elab.async false
set_option linter.all false
set_option maxRecDepth 100000
set_option autoImplicit false
set_option maxHeartbeats 2000000
namespace DL
open PySem PySem.Spec PyProof.Rows L2

/-! ### tests -/
@[irreducible] def truR : DV → (Bool → Prop) → Prop
  | .d (.bl b), Q => Q b
  | .d .non, Q => Q false
  | .d (.int i), Q => Q (i != 0)
  | .d (.str x), Q => x.length ≤ szl ∧ Q ((x.length : Int) != 0)
  | .d (.tup ds), Q => Q (!ds.isEmpty)
  | v, Q => match v.items with
    | some ds => Q (!ds.isEmpty)
    | none => False
def dTru (te : TD) : TDT := fun sl Q E => te sl (fun x s1 => truR x fun b => Q b s1) E
def dTest (te : TD) : TDT := fun sl Q E => te sl (fun x s1 => match x with
  | .d (.bl b) => Q b s1
  | _ => False) E
def dAnd (t u : TDT) : TDT := fun sl Q E => t sl (fun b s1 => Br b (u s1 Q E) (Q false s1)) E
def dOr (t u : TDT) : TDT := fun sl Q E => t sl (fun b s1 => Br b (Q true s1) (u s1 Q E)) E
def dNot (t : TDT) : TDT := fun sl Q E => t sl (fun b s1 => Q (!b) s1) E
def dIfE (t : TDT) (ta tb : TD) : TD := fun sl Q E => t sl (fun b s1 => Br b (ta s1 Q E) (tb s1 Q E)) E
def dAndV (ta tb : TD) : TD := fun sl Q E => ta sl (fun x s1 => match x with
  | .d (.bl b) => Br b (tb s1 Q E) (Q (.d (.bl false)) s1)
  | _ => False) E
def dOrV (ta tb : TD) : TD := fun sl Q E => ta sl (fun x s1 => match x with
  | .d (.bl b) => Br b (Q (.d (.bl true)) s1) (tb s1 Q E)
  | _ => False) E
def dNotV (ta : TD) : TD := fun sl Q E => ta sl (fun x s1 => truR x fun b => Q (.d (.bl (!b))) s1) E
theorem isEmpty_all {K : PySem.W.Frag} {G : Hp} {vs : List V} {ds : List D} (a : DAll K G vs ds) : vs.isEmpty = ds.isEmpty := by
  cases a <;> rfl
theorem tru_ok {K : PySem.W.Frag} {G : Hp} {so : Option Addr} {H : Hp} {v : V} {dv : DV} {Q : Bool → Prop} (h : HRep K G so H) (w : VOk K G so H v dv) (q : truR dv Q) : ∃ k, TruV K v H k ∧ Q k := by
  unfold truR at q
  split at q
  · cases w; exact ⟨_, rfl, q⟩
  · cases w; exact ⟨_, rfl, q⟩
  · cases w; exact ⟨_, rfl, q⟩
  · cases w; exact ⟨_, ⟨by rw [← szl_eq]; exact q.1, rfl⟩, q.2⟩
  · obtain ⟨a, vs, rfl, g1, a1⟩ := VOk.tup h w
    exact ⟨_, .inr (.inl ⟨vs, g1, rfl⟩), by rw [isEmpty_all a1]; exact q⟩
  · split at q
    · rename_i e
      obtain ⟨a, vs, rfl, g1, a1⟩ := VOk.list h w e
      exact ⟨_, .inl ⟨vs, SqL.of g1, rfl⟩, by rw [isEmpty_all a1]; exact q⟩
    · exact q.elim

section
variable {X : Cx} {W : WX} {e c a b : Expr} {rest : List Expr} {te ta tb tc : TD} {t u : TDT} {pos : Pos} {K : PySem.W.Frag} {σ : L2.St} {H : Hp}
theorem dt_val (h : DE X W e te) (he : ∀ whole, isTrue e X.env whole = (do let v ← whole; standAt e.pos; holding [v] (truthy v)) := by intro _; rfl) : DT X W e (dTru te) :=
  pt_imp (pt_truth h he) fun σ H R ⟨G, so, sl, Q, E, rep, q, hq, hx⟩ => ⟨G, so, sl, _, E, rep, q, fun v H1 G1 dv s1 p q1 => by
    obtain ⟨k, tv, qk⟩ := tru_ok p.rep.h p.val q1
    exact ⟨k, tv, hq k H1 G1 s1 p.toPost qk⟩, hx⟩
theorem up_test {te : TD} {R : Bool → Hp → Prop} (h : upT K W (dTest te) σ H R) : tTest (up K W te) σ H R := by
  obtain ⟨G, so, sl, Q, E, rep, q, hq, hx⟩ := h
  refine ⟨G, so, sl, _, E, rep, q, fun v H1 G1 dv s1 p q1 => ?_, hx⟩
  split at q1
  · have w := p.val
    cases w
    exact ⟨_, rfl, hq _ H1 G1 s1 p.toPost q1⟩
  · exact q1.elim
theorem up_test' {tE : TE} {te : TD} {R : Bool → Hp → Prop} (f : ∀ R, up K W te σ H R → tE σ H R) (h : upT K W (dTest te) σ H R) : tTest tE σ H R := f _ (up_test h)
theorem dt_cmp {op : CmpOp} {r : R2} {rd : DV → DV → (DV → Prop) → Prop} (ho : OpR X (compareOp op) r) (hr : OpSem X.K r rd) (ha : DE X W a ta) (hb : DE X W b tb) (hm : behindInMarks op b = false) : DT X W (.Compare a [op] [b] pos) (dTest (dOp rd ta tb)) :=
  pt_imp (pt_cmpR ho ha hb hm) fun _ _ _ h => up_test' (fun _ h => up_op hr h) h
/-- a op b op' c -/
def dChain (rd rd' : DV → DV → (DV → Prop) → Prop) (ta tb tc : TD) : TD := fun sl Q E => ta sl (fun x s1 => tb s1 (fun y s2 => rd x y fun z => match z with
  | .d (.bl b) => Br b (tc s2 (fun w s3 => rd' y w fun z' => Q z' s3) E) (Q (.d (.bl false)) s2)
  | _ => False) E) E
theorem PostV.nop {G G1 H1 : Hp} {so : Option Addr} {v : V} {dv : DV} {sl : DSt} (p : PostV K G so H v H1 G1 dv) (rep : Rep K G so σ H sl) : Post K G so σ H sl H1 G1 sl := (p.slots rep).toPost
theorem up_chain {r r' : R2} {rd rd' : DV → DV → (DV → Prop) → Prop} {R : VK} (hr : OpSem K r rd) (hr' : OpSem K r' rd') (h : up K W (dChain rd rd' ta tb tc) σ H R) : tChain r r' (up K W ta) (up K W tb) (up K W tc) σ H R := by
  obtain ⟨G, so, sl, Q, E, rep, q, hq, hx⟩ := h
  refine ⟨G, so, sl, _, E, rep, q, fun x H1 G1 dx s1 p1 h1 => ?_, hx⟩
  refine ⟨G1, so, s1, _, E, p1.rep, h1, fun y H2 G2 dy s2 p2 h2 => ?_, hx.step p1.toPost⟩
  have p12 := p1.toPost.trans p2.toPost
  refine hr G2 so H2 x y dx dy _ _ p2.rep.h (p1.over p2.toPost) p2.val h2 fun v H3 G3 dv pv hz => ?_
  split at hz
  · have w := pv.val
    cases w
    rename_i b
    have p3 := pv.nop p2.rep
    refine ⟨_, rfl, ?_⟩
    cases b with
    | true =>
      rw [if_pos rfl]
      refine ⟨G3, so, s2, _, E, p3.rep, (brt hz), fun w H4 G4 dw s4 p4 h4 => ?_, (hx.step p12).step p3⟩
      exact hr' G4 so H4 y w dy dw _ R p4.rep.h (p2.over (p3.trans p4.toPost)) p4.val h4 fun v' H' G' dv' pv' hz' => hq v' H' G' dv' s4 ((p12.trans (p3.trans p4.toPost)).thenV pv') hz'
    | false =>
      rw [if_neg Bool.false_ne_true]
      exact hq _ H3 G3 _ s2 (p12.thenV pv) ((brf hz))
  · exact hz.elim
theorem de_chain {op op' : CmpOp} {r r' : R2} {rd rd' : DV → DV → (DV → Prop) → Prop} (ho : OpR X (compareOp op) r) (hr : OpSem X.K r rd) (ho' : OpR X (compareOp op') r') (hr' : OpSem X.K r' rd') (ha : DE X W a ta) (hb : DE X W b tb) (hc : DE X W c tc)
    (hm : lastMarks [op, op'] [b, c] = false := by with_unfolding_all rfl) : DE X W (.Compare a [op, op'] [b, c] pos) (dChain rd rd' ta tb tc) := pe_imp (pe_chain ho ho' ha hb hc hm) fun _ _ _ h => up_chain hr hr' h
theorem dt_chain {op op' : CmpOp} {r r' : R2} {rd rd' : DV → DV → (DV → Prop) → Prop} (ho : OpR X (compareOp op) r) (hr : OpSem X.K r rd) (ho' : OpR X (compareOp op') r') (hr' : OpSem X.K r' rd') (ha : DE X W a ta) (hb : DE X W b tb) (hc : DE X W c tc)
    (hm : lastMarks [op, op'] [b, c] = false := by with_unfolding_all rfl) : DT X W (.Compare a [op, op'] [b, c] pos) (dTest (dChain rd rd' ta tb tc)) := pt_imp (pt_chain ho ho' ha hb hc hm) fun _ _ _ h => up_test' (fun _ h => up_chain hr hr' h) h
/-- and, or: a chain of tests -/
def DW (X : Cx) (W : WX) (e : Expr) (t : TDT) : Prop := PW X e (upT X.K W t)
theorem DW.dt (h : DW X W e t) : DT X W e t := PW.pt h
theorem dw_and1 (h : DT X W a t) : DW X W (.BoolOp .And [a] pos) t := pw_and1 h
theorem dw_or1 (h : DT X W a t) : DW X W (.BoolOp .Or [a] pos) t := pw_or1 h
theorem dw_and (h : DT X W a t) (h2 : DW X W (.BoolOp .And (b :: rest) pos) u) : DW X W (.BoolOp .And (a :: b :: rest) pos) (dAnd t u) := pw_imp (pw_and h h2) fun σ H R ⟨G, so, sl, Q, E, rep, q, hq, hx⟩ =>
  ⟨G, so, sl, _, E, rep, q, fun k H1 G1 s1 p q1 => by
    cases k with
    | true => rw [if_pos rfl]; exact ⟨G1, so, s1, Q, E, p.rep, (brt q1), fun k' H2 G2 s2 p2 q2 => hq k' H2 G2 s2 (p.trans p2) q2, hx.step p⟩
    | false => rw [if_neg Bool.false_ne_true]; exact hq false H1 G1 s1 p ((brf q1)), hx⟩
theorem dw_or (h : DT X W a t) (h2 : DW X W (.BoolOp .Or (b :: rest) pos) u) : DW X W (.BoolOp .Or (a :: b :: rest) pos) (dOr t u) := pw_imp (pw_or h h2) fun σ H R ⟨G, so, sl, Q, E, rep, q, hq, hx⟩ =>
  ⟨G, so, sl, _, E, rep, q, fun k H1 G1 s1 p q1 => by
    cases k with
    | true => rw [if_pos rfl]; exact hq true H1 G1 s1 p ((brt q1))
    | false => rw [if_neg Bool.false_ne_true]; exact ⟨G1, so, s1, Q, E, p.rep, (brf q1), fun k' H2 G2 s2 p2 q2 => hq k' H2 G2 s2 (p.trans p2) q2, hx.step p⟩, hx⟩
theorem dt_not (h : DT X W a t) : DT X W (.UnaryOp .Not a pos) (dNot t) := pt_imp (pt_not h) fun σ H R ⟨G, so, sl, Q, E, rep, q, hq, hx⟩ => ⟨G, so, sl, _, E, rep, q, fun k H1 G1 s1 p q1 => hq (!k) H1 G1 s1 p q1, hx⟩
theorem de_ifE (hc : DT X W c t) (ha : DE X W a ta) (hb : DE X W b tb) : DE X W (.IfExp c a b pos) (dIfE t ta tb) := pe_imp (pe_ifExp hc ha hb) fun σ H R ⟨G, so, sl, Q, E, rep, q, hq, hx⟩ =>
  ⟨G, so, sl, _, E, rep, q, fun k H1 G1 s1 p q1 => by
    cases k with
    | true => rw [if_pos rfl]; exact ⟨G1, so, s1, Q, E, p.rep, (brt q1), fun v H2 G2 dv s2 p2 q2 => hq v H2 G2 dv s2 (p.thenE p2) q2, hx.step p⟩
    | false => rw [if_neg Bool.false_ne_true]; exact ⟨G1, so, s1, Q, E, p.rep, (brf q1), fun v H2 G2 dv s2 p2 q2 => hq v H2 G2 dv s2 (p.thenE p2) q2, hx.step p⟩, hx⟩
theorem de_one {op : BoolOp} (h : DE X W a ta) : DE X W (.BoolOp op [a] pos) ta := pe_one h
theorem de_and (ha : DE X W a ta) (hb : DE X W (.BoolOp .And (b :: rest) pos) tb) : DE X W (.BoolOp .And (a :: b :: rest) pos) (dAndV ta tb) := pe_imp (pe_and ha hb) fun σ H R ⟨G, so, sl, Q, E, rep, q, hq, hx⟩ =>
  ⟨G, so, sl, _, E, rep, q, fun v H1 G1 dv s1 p q1 => by
    split at q1
    · have w := p.val
      cases w
      rename_i k
      refine ⟨_, rfl, ?_⟩
      cases k with
      | true => rw [if_pos rfl]; exact ⟨G1, so, s1, Q, E, p.rep, (brt q1), fun v H2 G2 dv s2 p2 q2 => hq v H2 G2 dv s2 (p.toPost.thenE p2) q2, hx.step p.toPost⟩
      | false => rw [if_neg Bool.false_ne_true]; exact hq _ H1 G1 _ s1 p ((brf q1))
    · exact q1.elim, hx⟩
theorem de_or (ha : DE X W a ta) (hb : DE X W (.BoolOp .Or (b :: rest) pos) tb) : DE X W (.BoolOp .Or (a :: b :: rest) pos) (dOrV ta tb) := pe_imp (pe_or ha hb) fun σ H R ⟨G, so, sl, Q, E, rep, q, hq, hx⟩ =>
  ⟨G, so, sl, _, E, rep, q, fun v H1 G1 dv s1 p q1 => by
    split at q1
    · have w := p.val
      cases w
      rename_i k
      refine ⟨_, rfl, ?_⟩
      cases k with
      | true => rw [if_pos rfl]; exact hq _ H1 G1 _ s1 p ((brt q1))
      | false => rw [if_neg Bool.false_ne_true]; exact ⟨G1, so, s1, Q, E, p.rep, (brf q1), fun v H2 G2 dv s2 p2 q2 => hq v H2 G2 dv s2 (p.toPost.thenE p2) q2, hx.step p.toPost⟩
    · exact q1.elim, hx⟩
theorem de_not (ha : DE X W a ta) : DE X W (.UnaryOp .Not a pos) (dNotV ta) := pe_imp (pe_notT ha) fun σ H R ⟨G, so, sl, Q, E, rep, q, hq, hx⟩ => ⟨G, so, sl, _, E, rep, q, fun v H1 G1 dv s1 p q1 => by
    obtain ⟨k, tv, qk⟩ := tru_ok p.rep.h p.val q1
    exact ⟨k, tv, hq _ H1 G1 _ s1 (p.toPost.thenV (.dat p.rep.h (.bl _))) qk⟩, hx⟩

/-! ### displays -/
def dats : List DV → Option (List D)
  | [] => some []
  | .d x :: r => (dats r).map (x :: ·)
  | _ => none
theorem dats_all {G : Hp} {so : Option Addr} : ∀ {vs : List V} {ds : List DV} {xs : List D}, VsOk K G so H vs ds → dats ds = some xs → DAll K G vs xs
  | _, _, _, .nil, e => by cases e; exact .nil
  | _, _, _, .cons (d := .d x) h n t, e => by
    unfold dats at e
    rename_i ds0
    cases z : dats ds0 with
    | none => rw [z] at e; cases e
    | some ys => rw [z] at e; cases e; exact .cons h (dats_all t z)
  | _, _, _, .cons (d := .src) h n t, e => by cases e
  | _, _, _, .cons (d := .own o) h n t, e => by cases e
  | _, _, _, .cons (d := .bor o) h n t, e => by cases e
  | _, _, _, .cons (d := .see o) h n t, e => by cases e
@[irreducible] def tupR (xs : List DV) (Q : DV → Prop) : Prop := match dats xs with
  | some ds => ds.length ≤ szl ∧ Q (.d (.tup ds))
  | none => False
@[irreducible] def lstR (xs : List DV) (Q : DV → Prop) : Prop := match dats xs with
  | some ds => ds.length ≤ szl ∧ Q (.own (.lst ds))
  | none => False
theorem de_tup {es : List Expr} {ta : TDA} {k : Nat} (h : DA X W es ta) : DE X W (.Tuple es k pos) (dCB tupR ta) := pe_imp (pe_tup h) fun σ H R ⟨G, so, sl, Q, E, rep, q, hq, hx⟩ =>
  ⟨G, so, sl, _, E, rep, q, fun vs H1 G1 ds s1 p w q1 => by
    unfold tupR at q1
    split at q1
    · rename_i xs e
      have a := dats_all w e
      exact ⟨by rw [a.length, ← szl_eq]; exact q1.1, fun l n => hq _ _ _ _ s1 (p.thenV (.tuple p.rep.h n a)) q1.2⟩
    · exact q1.elim, hx⟩
theorem de_lst {es : List Expr} {ta : TDA} (h : DA X W es ta) : DE X W (.List es pos) (dCB lstR ta) := pe_imp (pe_lst h) fun σ H R ⟨G, so, sl, Q, E, rep, q, hq, hx⟩ =>
  ⟨G, so, sl, _, E, rep, q, fun vs H1 G1 ds s1 p w q1 => by
    unfold lstR at q1
    split at q1
    · rename_i xs e
      have a := dats_all w e
      exact ⟨by rw [a.length, ← szl_eq]; exact q1.1, fun l n => hq _ _ _ _ s1 (p.thenV (.list p.rep.h n a)) q1.2⟩
    · exact q1.elim, hx⟩
end
end DL

set_option Elab.async false
set_option linter.all false
set_option maxRecDepth 100000
set_option autoImplicit false
set_option maxHeartbeats 2000000
namespace DL
open PySem PySem.Spec PyProof.Rows L2

/-! ### targets -/
abbrev TDG := D → DSt → (DSt → Prop) → Prop
abbrev TDGs := List D → DSt → (DSt → Prop) → Prop
def GSem (K : PySem.W.Frag) (n : Nat) (ix : List Nat) (g : TG) (gd : TDG) : Prop := ∀ (G : Hp) (so : Option Addr) (σ : L2.St) (H : Hp) (sl : DSt) (v : V) (d : D) (Q : DSt → Prop) (R : L2.St → Hp → Prop), σ.length = n → Rep K G so σ H sl → DOk K G v d → gd d sl Q →
  (∀ σ' sl', PostS K G so σ H sl σ' H G sl' → (∀ j, j ∉ ix → σ'[j]? = σ[j]? ∧ sl'[j]? = sl[j]?) → Q sl' → R σ' H) → g v σ H R
def GsSem (K : PySem.W.Frag) (n : Nat) (ix : List Nat) (g : TGs) (gd : TDGs) : Prop := ∀ (G : Hp) (so : Option Addr) (σ : L2.St) (H : Hp) (sl : DSt) (vs : List V) (ds : List D) (Q : DSt → Prop) (R : L2.St → Hp → Prop), σ.length = n → Rep K G so σ H sl → DAll K G vs ds → gd ds sl Q →
  (∀ σ' sl', PostS K G so σ H sl σ' H G sl' → (∀ j, j ∉ ix → σ'[j]? = σ[j]? ∧ sl'[j]? = sl[j]?) → Q sl' → R σ' H) → g vs σ H R
structure DG (X : Cx) (ix : List Nat) (tg : Expr) (g : TG) (gd : TDG) : Prop where
  pg : PG X tg g
  sem : GSem X.K X.N.length ix g gd
structure DGs (X : Cx) (ix : List Nat) (tg : List Expr) (g : TGs) (gd : TDGs) : Prop where
  pg : PGs X tg g
  sem : GsSem X.K X.N.length ix g gd
def gD (i : Nat) : TDG := fun d sl Q => Q (sl.set i (some (.d d)))
def gNilD : TDGs := fun ds sl Q => match ds with
  | [] => Q sl
  | _ => False
def gConsD (g : TDG) (r : TDGs) : TDGs := fun ds sl Q => match ds with
  | d :: ds' => g d sl fun s1 => r ds' s1 Q
  | [] => False
def gTupD (n : Nat) (r : TDGs) : TDG := fun d sl Q => match d with
  | .tup ds => ds.length = n ∧ r ds sl Q
  | _ => False
section
variable {X : Cx} {pos : Pos} {i : Nat} {x : Str} {ix iy : List Nat} {e : Expr} {es : List Expr} {gd : TDG} {gs : TDGs} {g1 : TG} {g2 : TGs}
theorem gsem_name {K : PySem.W.Frag} {n : Nat} (hi : i < n) : GSem K n [i] (gName i) (gD i) := by
  intro G so σ H sl v d Q R hl rep w q k
  have h0 : i < σ.length := by rw [hl]; exact hi
  refine k _ _ ((PostE.here rep (dv := .d d) w (fun _ z => (nomatch z)) fun _ _ z => (nomatch z)).set h0 fun _ z => by cases z) (fun j hj => ?_) q
  exact ⟨List.getElem?_set_ne fun z => hj (by simp [z]), List.getElem?_set_ne fun z => hj (by simp [z])⟩
theorem dg_name (hN : X.N.Nodup) (hi : X.N[i]? = some x) (hx : Loc X.env.scope x) (hf : X.fn x = true ∨ X.env.scope.names.lookup x = some .local := by first | exact .inl rfl | exact .inr rfl | assumption) : DG X [i] (.Name x pos) (gName i) (gD i) :=
  ⟨pg_name hN hi hx hf, gsem_name (List.getElem?_eq_some_iff.mp hi).1⟩
theorem dgs_nil : DGs X [] [] gNil gNilD := ⟨pgs_nil, fun G so σ H sl vs ds Q R hl rep w q k => by
  unfold gNilD at q
  split at q
  · cases w; exact ⟨rfl, k σ sl (.refl rep) (fun _ _ => ⟨rfl, rfl⟩) q⟩
  · exact q.elim⟩
theorem dgs_cons (h1 : DG X ix e g1 gd) (h2 : DGs X iy es g2 gs) (hs : (assignEach (e :: es) X.env).map (·.2) = assign e X.env :: (assignEach es X.env).map (·.2) := by rfl) : DGs X (ix ++ iy) (e :: es) (gCons g1 g2) (gConsD gd gs) := by
  obtain ⟨p1, s1⟩ := h1
  obtain ⟨p2, s2⟩ := h2
  refine ⟨pgs_cons p1 p2 hs, fun G so σ H sl vs ds Q R hl rep w q k => ?_⟩
  unfold gConsD at q
  split at q
  · cases w with
    | cons w1 w2 =>
      refine ⟨_, _, rfl, s1 G so σ H sl _ _ _ _ hl rep w1 q fun σ1 sl1 t1 u1 q1 => ?_⟩
      refine s2 G so σ1 H sl1 _ _ _ _ (t1.ln.trans hl) t1.rep w2 q1 fun σ2 sl2 t2 u2 q2 => k σ2 sl2 (t1.trans t2) (fun j hj => ?_) q2
      have v2 := u2 j fun z => hj (List.mem_append_right _ z)
      have v1 := u1 j fun z => hj (List.mem_append_left _ z)
      exact ⟨v2.1.trans v1.1, v2.2.trans v1.2⟩
  · exact q.elim
theorem dg_tup {k : Nat} {n : Nat} {K : PySem.W.Frag} (hc : X.calm = true) (h : DGs X ix es g2 gs) (hK : X.K = K := by rfl) (hn : (assignEach es X.env).length = n := by rfl) (hst : (assignEach es X.env).findIdx? (·.1) = none := by rfl) : DG X ix (.Tuple es k pos) (gTup K n g2) (gTupD n gs) := by
  subst hK
  obtain ⟨p, s⟩ := h
  refine ⟨pg_tup hc p hn hst, fun G so σ H sl v d Q R hl rep w q k => ?_⟩
  unfold gTupD at q
  split at q
  · obtain ⟨a, vs, rfl, g1, a1⟩ := VOk.tup rep.h w
    exact ⟨a, vs, rfl, g1, a1.length.trans q.1, s G so σ H sl vs _ Q R hl rep a1 q.2 k⟩
  · exact q.elim
end

/-! ### what is walked -/
abbrev TDI := DSt → (List D → DSt → Prop) → XP → Prop
def ItD (K : PySem.W.Frag) (G : Hp) (so : Option Addr) (σ : L2.St) (H : Hp) (sl : DSt) (J : It) (ds : List D) : Prop := ∃ ps : List Addr, (∀ a ∈ ps, H a ≠ none ∧ so ≠ some a ∧ ¬ Own sl σ a) ∧
  (∀ (i : Nat) H1, i < ds.length → (∀ a ∈ ps, H1 a = H a) → J.go i H1) ∧ (∀ H1, (∀ a ∈ ps, H1 a = H a) → J.stop ds.length H1) ∧
  (∀ (i : Nat) H1 x H2 G1, (∀ a ∈ ps, H1 a = H a) → Ex G G1 → HRep K G1 so H1 → J.yld i H1 x H2 → i < ds.length → ∃ d G2, ds[i]? = some d ∧ PostV K G1 so H1 x H2 G2 (.d d))
def upI (K : PySem.W.Frag) (W : WX) (t : TDI) : TI := fun σ H R => ∃ G so sl Q E, Rep K G so σ H sl ∧ t sl Q E ∧ (∀ J H' G' ds sl', Post K G so σ H sl H' G' sl' → ItD K G' so σ H' sl' J ds → Q ds sl' → R J H') ∧ XOk K W G so σ H sl E
def DI (X : Cx) (W : WX) (tg iter : Expr) (t : TDI) : Prop := PI X tg iter (upI X.K W t)
theorem pi_imp {X : Cx} {tg e : Expr} {t t' : TI} (h : PI X tg e t) (f : ∀ σ H R, t' σ H R → t σ H R) : PI X tg e t' := ⟨fun pins s σ H Q I q => h.run pins s σ H Q I (f _ _ _ q)⟩

/-- the signs of a text, one by one -/
def signs (z : Str) : List D := z.cps.toList.map fun c => .str ⟨#[c]⟩
@[irreducible] def iterR : DV → (List D → Prop) → Prop
  | .d (.tup ds), Q => Q ds
  | .d (.str z), Q => Q (signs z)
  | .see _, _ => False
  | v, Q => match v.items with
    | some ds => Q ds
    | none => False
/-- for .. in e -/
def dIter (te : TD) : TDI := fun sl Q E => te sl (fun x s1 => iterR (pubV x) fun ds => Q ds s1) E
def intsFrom (lo : Int) : Nat → List D
  | 0 => []
  | n + 1 => .int lo :: intsFrom (lo + 1) n
theorem intsFrom_len (lo : Int) (n : Nat) : (intsFrom lo n).length = n := by
  induction n generalizing lo with
  | zero => rfl
  | succ n ih => show (intsFrom (lo + 1) n).length + 1 = n + 1; rw [ih]
theorem intsFrom_get (lo : Int) (n i : Nat) (h : i < n) : (intsFrom lo n)[i]? = some (.int (lo + i)) := by
  induction n generalizing lo i with
  | zero => omega
  | succ n ih =>
    cases i with
    | zero => show some (D.int lo) = _; rw [show lo + ((0 : Nat) : Int) = lo by omega]
    | succ i => show (intsFrom (lo + 1) n)[i]? = _; rw [ih (lo + 1) i (by omega)]; congr 2; omega
/-- what a call of range, enumerate, zip walks -/
def dItA (rd : List DV → (List D → Prop) → Prop) (ta : TDA) : TDI := fun sl Q E => ta sl (fun xs s1 => rd xs fun ds => Q ds s1) E
@[irreducible] def rngR1 : List DV → (List D → Prop) → Prop
  | [.d (.int j)], Q => -(2 ^ 62) ≤ j ∧ j < 2 ^ 62 ∧ Q (intsFrom 0 j.toNat)
  | _, _ => False
@[irreducible] def rngR2 : List DV → (List D → Prop) → Prop
  | [.d (.int i), .d (.int j)], Q => (-(2 ^ 62) ≤ i ∧ i < 2 ^ 62 ∧ -(2 ^ 62) ≤ j ∧ j < 2 ^ 62) ∧ Q (intsFrom i (j - i).toNat)
  | _, _ => False
def enumFrom (i : Int) : List D → List D
  | [] => []
  | d :: r => .tup [.int i, d] :: enumFrom (i + 1) r
theorem enum_len (i : Int) (ds : List D) : (enumFrom i ds).length = ds.length := by
  induction ds generalizing i with
  | nil => rfl
  | cons d r ih => show (enumFrom (i + 1) r).length + 1 = r.length + 1; rw [ih]
theorem enum_get (i : Int) (ds : List D) (j : Nat) (d : D) (h : ds[j]? = some d) : (enumFrom i ds)[j]? = some (.tup [.int (i + j), d]) := by
  induction ds generalizing i j with
  | nil => simp at h
  | cons e r ih =>
    cases j with
    | zero => cases h; show some (D.tup [.int i, d]) = _; rw [show i + ((0 : Nat) : Int) = i by omega]
    | succ j => show (enumFrom (i + 1) r)[j]? = _; rw [ih (i + 1) j (by simpa using h)]; congr 4; omega
@[irreducible] def enumR : List DV → (List D → Prop) → Prop
  | [.see _], _ => False
  | [.bor _], _ => False
  | [v], Q => match v.items with
    | some ds => Q (enumFrom 0 ds)
    | none => False
  | _, _ => False
def zipD : List D → List D → List D
  | a :: r, b :: s => .tup [a, b] :: zipD r s
  | _, _ => []
theorem zip_len (xs ys : List D) : (zipD xs ys).length = min xs.length ys.length := by
  induction xs generalizing ys with
  | nil => cases ys <;> simp [zipD]
  | cons a r ih => cases ys with
    | nil => simp [zipD]
    | cons b s => show (zipD r s).length + 1 = _; rw [ih]; simp only [List.length_cons]; omega
theorem zip_get (xs ys : List D) (j : Nat) (a b : D) (h : xs[j]? = some a) (h' : ys[j]? = some b) : (zipD xs ys)[j]? = some (.tup [a, b]) := by
  induction xs generalizing ys j with
  | nil => simp at h
  | cons x r ih => cases ys with
    | nil => simp at h'
    | cons y s => cases j with
      | zero => cases h; cases h'; rfl
      | succ j => exact ih s j (by simpa using h) (by simpa using h')
@[irreducible] def zipR : List DV → (List D → Prop) → Prop
  | [.d (.tup xs), .d (.tup ys)], Q => Q (zipD xs ys)
  | [.d (.lst xs), .d (.lst ys)], Q => Q (zipD xs ys)
  | _, _ => False
section
variable {X : Cx} {W : WX} {tg e e2 a b : Expr} {te : TD} {ta : TDA} {pos p : Pos}
def iAny (K : PySem.W.Frag) (tl : TE) : TI := fun σ H R => tl σ H fun x H1 => (∃ a, x = .ref a ∧ (∃ xs, SqL K H1 a xs) ∧ R (Itl K a) H1) ∨ (∃ a, x = .ref a ∧ (∃ xs, SqT K H1 a xs) ∧ R (Itt K a) H1) ∨ ∃ z, x = .str z ∧ R (Its z) H1
theorem pi_any {tl : TE} (hl : PE X e tl) : PI X tg e (iAny X.K tl) := by
  refine ⟨fun pins s σ H R I h => thn (hl.run pins s σ H _ I h) fun v s1 ⟨x, H1, I1, r1, q1⟩ => ?_⟩
  rcases q1 with ⟨a, ex, ⟨xs, hq⟩, q⟩ | ⟨a, ex, ⟨xs, hq⟩, q⟩ | ⟨z, ex, q⟩
  · subst ex; cases r1
    obtain ⟨its, rv, pl, _⟩ := I1.list hq
    exact wpAny_pyIter_list pl.isList (pi_one (tk := s1.toks) I1 _ (turn_list a _) ⟨_, Heap.get?_push_size _ rfl, rfl, rfl⟩ q)
  · subst ex; cases r1
    obtain ⟨its, rv, pt, _⟩ := I1.tuple hq
    exact wpAny_pyIter_tuple (show s1.heap.IsTuple a its.toArray from pt) (pi_one (tk := s1.toks) I1 _ (turn_tuple a _) ⟨_, Heap.get?_push_size _ rfl, rfl, rfl⟩ q)
  · subst ex
    obtain ⟨t, rfl⟩ := r1
    cases ha : z.cps.all (· < 128)
    · exact wpAny_pyIter_wide ha (pi_one (tk := s1.toks) I1 _ (turn_str _ z t "str_iterator" (.inr rfl)) ⟨_, Heap.get?_push_size _ rfl, rfl, rfl⟩ q)
    · exact wpAny_pyIter_ascii ha (pi_one (tk := s1.toks) I1 _ (turn_str _ z t "str_ascii_iterator" (.inl rfl)) ⟨_, Heap.get?_push_size _ rfl, rfl, rfl⟩ q)
section
variable {K : PySem.W.Frag} {G H : Hp} {so : Option Addr} {σ : L2.St} {sl : DSt} {v w : V} {dv dw : DV}
theorem same_l {H1 : Hp} {c : Addr} {vs : List V} (h : SqL K H c vs) (e : H1 c = H c) : SqL K H1 c vs := by
  rcases h with (h | ⟨o, h⟩) | h
  · exact .inl (.inl (by rw [e]; exact h))
  · exact .inl (.inr ⟨o, by rw [e]; exact h⟩)
  · exact .inr h
theorem same_t {H1 : Hp} {c : Addr} {vs : List V} (h : SqT K H c vs) (e : H c ≠ none → H1 c = H c) : SqT K H1 c vs := by
  rcases h with (h | ⟨o, h⟩) | h
  · exact .inl (.inl (by rw [e (by rw [h]; simp)]; exact h))
  · exact .inl (.inr ⟨o, by rw [e (by rw [h]; simp)]; exact h⟩)
  · exact .inr h
/-- a list that is no slot's own: its place, what stands there -/
theorem VOk.listS {ds : List D} (rep : Rep K G so σ H sl) (w : VOk K G so H v dv) (n : ∀ o a, dv = .own o ∨ dv = .bor o → v = .ref a → ¬ Own sl σ a) (m : ∀ o, dv ≠ .see o) (e : dv.items = some ds) :
    ∃ a vs, v = .ref a ∧ H a = some (.lst vs) ∧ DAll K G vs ds ∧ H a ≠ none ∧ so ≠ some a ∧ ¬ Own sl σ a := by
  unfold DV.items at e
  split at e
  · cases e
    cases w with
    | lst g al => exact ⟨_, _, rfl, rep.h.ex _ _ g, al, by rw [rep.h.ex _ _ g]; simp, rep.h.nsrc g, fun z => by have := (rep.nown z).2.1; rw [g] at this; cases this⟩
  · cases e
    obtain ⟨c, rfl, g, s, vs, e1, al⟩ := w
    exact ⟨c, vs, rfl, e1, al, by rw [e1]; simp, s, n _ c (.inl rfl) rfl⟩
  · cases e
    obtain ⟨c, rfl, s, vs, e1, al⟩ := w
    exact ⟨c, vs, rfl, e1, al, by rw [e1]; simp, s, n _ c (.inr rfl) rfl⟩
  · exact absurd rfl (m _)
  · cases e
theorem it_list {c : Addr} {vs : List V} {ds : List D} (e : H c = some (.lst vs)) (al : DAll K G vs ds) (s : so ≠ some c) (n : ¬ Own sl σ c) : ItD K G so σ H sl (Itl K c) ds := by
  refine ⟨[c], fun a ha => ?_, fun i H1 hi k => ?_, fun H1 k => ?_, fun i H1 x H2 G1 k g h1 y hi => ?_⟩
  · obtain rfl : a = c := by simpa using ha
    exact ⟨by rw [e]; simp, s, n⟩
  · have q : H1 c = some (.lst vs) := by rw [k c (by simp)]; exact e
    have hl : i < vs.length := by rw [al.length]; exact hi
    exact ⟨vs, vs[i], SqL.of q, by simp [hl]⟩
  · have q : H1 c = some (.lst vs) := by rw [k c (by simp)]; exact e
    exact ⟨vs, SqL.of q, by rw [al.length]; exact Nat.le_refl _⟩
  · have q : H1 c = some (.lst vs) := by rw [k c (by simp)]; exact e
    obtain ⟨rfl, y⟩ := y
    obtain ⟨d, e1, e2⟩ := al.getV (y vs (SqL.of q))
    exact ⟨d, G1, e1, .dat h1 (e2.mono g)⟩
theorem it_tup {c : Addr} {vs : List V} {ds : List D} (rep : Rep K G so σ H sl) (e : SqT K G c vs) (al : DAll K G vs ds) : ItD K G so σ H sl (Itt K c) ds := by
  have kp : ∀ (H1 : Hp), (∀ a ∈ (if G c = none then [] else [c]), H1 a = H a) → SqT K H1 c vs := fun H1 k => by
    rcases e with (e | ⟨o, e⟩) | e
    · refine .inl (.inl ?_)
      rw [k c (by rw [if_neg (by rw [e]; simp)]; simp)]; exact rep.h.ex _ _ e
    · refine .inl (.inr ⟨o, ?_⟩)
      rw [k c (by rw [if_neg (by rw [e]; simp)]; simp)]; exact rep.h.ex _ _ e
    · exact .inr e
  refine ⟨if G c = none then [] else [c], fun a ha => ?_, fun i H1 hi k => ?_, fun H1 k => ?_, fun i H1 x H2 G1 k g h1 y hi => ?_⟩
  · split at ha
    · simp at ha
    · rename_i z
      obtain rfl : a = c := by simpa using ha
      obtain ⟨o, eo⟩ := Option.ne_none_iff_exists'.mp z
      exact ⟨by rw [rep.h.ex _ _ eo]; simp, rep.h.nsrc eo, fun q => z (rep.nown q).2.1⟩
  · have hl : i < vs.length := by rw [al.length]; exact hi
    exact ⟨vs, vs[i], kp H1 k, by simp [hl]⟩
  · exact ⟨vs, kp H1 k, by rw [al.length]; exact Nat.le_refl _⟩
  · obtain ⟨rfl, y⟩ := y
    obtain ⟨d, e1, e2⟩ := al.getV (y vs (kp _ k))
    exact ⟨d, G1, e1, .dat h1 (e2.mono g)⟩
theorem it_str {z : Str} : ItD K G so σ H sl (Its z) (signs z) := by
  have hl : (signs z).length = z.cps.size := by unfold signs; simp
  refine ⟨[], fun a ha => by simp at ha, fun i H1 hi k => by rw [hl] at hi; exact hi, fun H1 k => Nat.le_of_eq hl.symm, fun i H1 x H2 G1 k g h1 y hi => ?_⟩
  obtain ⟨rfl, c, e, rfl⟩ := y
  refine ⟨.str ⟨#[c]⟩, G1, ?_, .dat h1 (.str _)⟩
  unfold signs
  rw [List.getElem?_map, Array.getElem?_toList, e]; rfl
theorem it_rng {lo : Int} {n : Nat} : ItD K G so σ H sl (Itr lo n) (intsFrom lo n) := by
  have hl := intsFrom_len lo n
  refine ⟨[], fun a ha => by simp at ha, fun i H1 hi k => by rw [hl] at hi; exact hi, fun H1 k => Nat.le_of_eq hl.symm, fun i H1 x H2 G1 k g h1 y hi => ?_⟩
  obtain ⟨rfl, rfl⟩ := y
  rw [hl] at hi
  exact ⟨_, G1, intsFrom_get lo n i hi, .dat h1 (.int _)⟩
theorem it_enum {c : Addr} {vs : List V} {ds : List D} (e : H c = some (.lst vs)) (al : DAll K G vs ds) (s : so ≠ some c) (n : ¬ Own sl σ c) : ItD K G so σ H sl (Ite K c) (enumFrom 0 ds) := by
  have hl := enum_len 0 ds
  have W := walk_enum (K := K) (a := c) (xs := vs)
  refine ⟨[c], fun a ha => ?_, fun i H1 hi k => ?_, fun H1 k => ?_, fun i H1 x H2 G1 k g h1 y hi => ?_⟩
  · obtain rfl : a = c := by simpa using ha
    exact ⟨by rw [e]; simp, s, n⟩
  · exact W.goes i H1 (by rw [al.length, ← hl]; exact hi) (SqL.of (by rw [k c (by simp)]; exact e))
  · rw [hl, ← al.length]; exact W.stops H1 (SqL.of (by rw [k c (by simp)]; exact e))
  · obtain ⟨T, x1, x2, rfl, nT, rfl, f1, f2⟩ := W.yields i H1 x H2 (by rw [al.length, ← hl]; exact hi) (SqL.of (by rw [k c (by simp)]; exact e)) y
    cases f1
    obtain ⟨d, e1, e2⟩ := al.getV f2
    refine ⟨_, _, enum_get 0 ds i d e1, .tuple h1 nT (.cons ?_ (.cons (e2.mono g) .nil))⟩
    rw [show (0 : Int) + (i : Nat) = (i : Nat) by omega]; exact .int _
theorem it_zip {c c' : Addr} {vs ws : List V} {ds es : List D} (e : H c = some (.lst vs)) (al : DAll K G vs ds) (s : so ≠ some c) (n : ¬ Own sl σ c) (e' : H c' = some (.lst ws)) (al' : DAll K G ws es) (s' : so ≠ some c') (n' : ¬ Own sl σ c') : ItD K G so σ H sl (Itz K c c') (zipD ds es) := by
  have hl := zip_len ds es
  have hl2 : (zipD ds es).length = min vs.length ws.length := by rw [hl, al.length, al'.length]
  have W := walk_zip (K := K) (a := c) (b := c') (xs := vs) (ys := ws) hl2
  have st : ∀ (H1 : Hp), (∀ a ∈ [c, c'], H1 a = H a) → SqL K H1 c vs ∧ SqL K H1 c' ws := fun H1 k => ⟨SqL.of (by rw [k c (by simp)]; exact e), SqL.of (by rw [k c' (by simp)]; exact e')⟩
  refine ⟨[c, c'], fun a ha => ?_, fun i H1 hi k => W.goes i H1 hi (st H1 k), fun H1 k => W.stops H1 (st H1 k), fun i H1 x H2 G1 k g h1 y hi => ?_⟩
  · rcases (by simpa using ha : a = c ∨ a = c') with rfl | rfl
    · exact ⟨by rw [e]; simp, s, n⟩
    · exact ⟨by rw [e']; simp, s', n'⟩
  · obtain ⟨T, x1, x2, rfl, nT, rfl, f1, f2⟩ := W.yields i H1 x H2 hi (st H1 k) y
    obtain ⟨d1, e1, e2⟩ := al.getV f1
    obtain ⟨d2, e3, e4⟩ := al'.getV f2
    exact ⟨_, _, zip_get ds es i d1 d2 e1 e3, .tuple h1 nT (.cons (e2.mono g) (.cons (e4.mono g) .nil))⟩
end
theorem pub_nown {x : V} {dx : DV} {sl : DSt} {σ : L2.St} {K : PySem.W.Frag} {G : Hp} {so : Option Addr} {H : Hp} (rep : Rep K G so σ H sl) : ∀ o a, pubV dx = .own o → x = .ref a → ¬ Own sl σ a := fun o a e => absurd e (pubV_not dx o)
end
end DL

set_option Elab.async false
set_option linter.all false
set_option maxRecDepth 100000
set_option autoImplicit false
set_option maxHeartbeats 2000000
namespace DL
open PySem PySem.Spec PyProof.Rows L2

section
variable {X : Cx} {W : WX} {tg e e2 a b : Expr} {te : TD} {ta : TDA} {pos p : Pos}
theorem di_any (h : DE X W e te) : DI X W tg e (dIter te) := pi_imp (pi_any h) fun σ H R ⟨G, so, sl, Q, E, rep, q, hq, hx⟩ => by
  refine ⟨G, so, sl, _, E, rep, q, fun x H1 G0 dx s1 p0 q1 => ?_, hx⟩
  obtain ⟨G1, p⟩ := p0.pub
  have w := p.val
  have sv := p.sepv
  have rp := p.rep
  have pp := p.toPost
  generalize hz : pubV dx = dz at w q1 sv
  unfold iterR at q1
  split at q1
  · cases w with
    | tup g al => exact .inr (.inl ⟨_, rfl, ⟨_, ex_t rp.h.ex g⟩, hq _ H1 G1 _ s1 pp (it_tup rp g al) q1⟩)
  · cases w; exact .inr (.inr ⟨_, rfl, hq _ H1 G1 _ s1 pp it_str q1⟩)
  · exact q1.elim
  · split at q1
    · rename_i ns _o ds e1
      obtain ⟨c, vs, rfl, e2, al, _, s, n⟩ := VOk.listS rp w (fun o c e' q' => sv c o e' q') (fun o z => ns o z) e1
      exact .inl ⟨c, rfl, ⟨_, SqL.of e2⟩, hq _ H1 G1 _ s1 pp (it_list e2 al s n) q1⟩
    · exact q1.elim
theorem VsOk.v1 {K : PySem.W.Frag} {G H : Hp} {so : Option Addr} {vs : List V} {d : DV} (h : VsOk K G so H vs [d]) : ∃ v, vs = [v] ∧ VOk K G so H v d ∧ ∀ o, d ≠ .own o := by
  cases h with
  | cons w n t => cases t; exact ⟨_, rfl, w, n⟩
theorem VsOk.v2 {K : PySem.W.Frag} {G H : Hp} {so : Option Addr} {vs : List V} {d e : DV} (h : VsOk K G so H vs [d, e]) : ∃ v w, vs = [v, w] ∧ VOk K G so H v d ∧ VOk K G so H w e ∧ (∀ o, d ≠ .own o) ∧ ∀ o, e ≠ .own o := by
  cases h with
  | cons w n t =>
    obtain ⟨v, rfl, w2, n2⟩ := t.v1
    exact ⟨_, v, rfl, w, w2, n, n2⟩
theorem rep_own {K : PySem.W.Frag} {G H : Hp} {so : Option Addr} {σ : L2.St} {sl : DSt} (rep : Rep K G so σ H sl) {c : Addr} {o : HO} (g : G c = some o) : ¬ Own sl σ c := fun z => by
  have := (rep.nown z).2.1
  rw [g] at this; cases this
theorem di_rng1 (hg : Gl X "range") (hm : X.mg "range" = none) (h : DA X W [a] ta) (hs : starEach [a] X.env = [(false, eval a X.env)] := by rfl) : DI X W tg (.Call (.Name "range" p) [a] [] pos) (dItA rngR1 ta) := pi_imp (pi_range1 hg hm h hs) fun σ H R ⟨G, so, sl, Q, E, rep, q, hq, hx⟩ => by
  refine ⟨G, so, sl, _, E, rep, q, fun vs H1 G1 ds s1 pp w q1 => ?_, hx⟩
  unfold rngR1 at q1
  split at q1
  · obtain ⟨v, rfl, w1, _⟩ := w.v1
    cases w1
    exact ⟨_, rfl, q1.1, q1.2.1, hq _ H1 G1 _ s1 pp it_rng q1.2.2⟩
  · exact q1.elim
theorem di_rng2 (hg : Gl X "range") (hm : X.mg "range" = none) (h : DA X W [a, b] ta) (hs : starEach [a, b] X.env = [(false, eval a X.env), (false, eval b X.env)] := by rfl) (hs2 : starEach [b] X.env = [(false, eval b X.env)] := by rfl) : DI X W tg (.Call (.Name "range" p) [a, b] [] pos) (dItA rngR2 ta) := pi_imp (pi_range2 hg hm h hs hs2) fun σ H R ⟨G, so, sl, Q, E, rep, q, hq, hx⟩ => by
  refine ⟨G, so, sl, _, E, rep, q, fun vs H1 G1 ds s1 pp w q1 => ?_, hx⟩
  unfold rngR2 at q1
  split at q1
  · obtain ⟨v, v', rfl, w1, w2, _⟩ := w.v2
    cases w1; cases w2
    exact ⟨_, _, rfl, q1.1, hq _ H1 G1 _ s1 pp it_rng q1.2⟩
  · exact q1.elim
theorem di_enum {elts : List Expr} {kk : Nat} {tpos : Pos} (hg : Gl X "enumerate") (hm : X.mg "enumerate" = none) (h : DA X W [e] ta) (hs : starEach [e] X.env = [(false, eval e X.env)] := by rfl) : DI X W (.Tuple elts kk tpos) (.Call (.Name "enumerate" p) [e] [] pos) (dItA enumR ta) := pi_imp (pi_enum hg hm h hs) fun σ H R ⟨G, so, sl, Q, E, rep, q, hq, hx⟩ => by
  refine ⟨G, so, sl, _, E, rep, q, fun vs H1 G1 ds s1 pp w q1 => ?_, hx⟩
  unfold enumR at q1
  split at q1
  · exact q1.elim
  · exact q1.elim
  · rename_i dv n1 n2
    obtain ⟨v, rfl, w1, no⟩ := w.v1
    split at q1
    · rename_i _o xs e1
      obtain ⟨c, us, rfl, e2, al, _, s, n⟩ := VOk.listS pp.rep w1 (fun o c e' q' => e'.elim (fun z => absurd z (no o)) fun z => absurd z (n2 o)) (fun o z => n1 o z) e1
      exact ⟨c, us, rfl, SqL.of e2, hq _ H1 G1 _ s1 pp (it_enum e2 al s n) q1⟩
    · exact q1.elim
  · exact q1.elim
end
section
variable {X : Cx} {W : WX} {e e2 : Expr} {ta : TDA} {pos p : Pos}
theorem it_zipT {K : PySem.W.Frag} {G H : Hp} {so : Option Addr} {σ : L2.St} {sl : DSt} {c c' : Addr} {vs ws : List V} {ds es : List D} (rep : Rep K G so σ H sl) (g : SqT K G c vs) (al : DAll K G vs ds) (g' : SqT K G c' ws) (al' : DAll K G ws es) : ItD K G so σ H sl (RZ.ItzT K c c') (zipD ds es) := by
  have hl := zip_len ds es
  have kp : ∀ (c : Addr) (vs : List V) (H1 : Hp), SqT K G c vs → (∀ a ∈ (if G c = none then [] else [c]), H1 a = H a) → SqT K H1 c vs := fun c vs H1 e k => by
    rcases e with (e | ⟨o, e⟩) | e
    · refine .inl (.inl ?_)
      rw [k c (by rw [if_neg (by rw [e]; simp)]; simp)]; exact rep.h.ex _ _ e
    · refine .inl (.inr ⟨o, ?_⟩)
      rw [k c (by rw [if_neg (by rw [e]; simp)]; simp)]; exact rep.h.ex _ _ e
    · exact .inr e
  have st : ∀ (H1 : Hp), (∀ a ∈ (if G c = none then [] else [c]) ++ (if G c' = none then [] else [c']), H1 a = H a) → SqT K H1 c vs ∧ SqT K H1 c' ws := fun H1 k =>
    ⟨kp c vs H1 g fun a ha => k a (List.mem_append_left _ ha), kp c' ws H1 g' fun a ha => k a (List.mem_append_right _ ha)⟩
  have one : ∀ (c a : Addr), a ∈ (if G c = none then [] else [c]) → H a ≠ none ∧ so ≠ some a ∧ ¬ Own sl σ a := fun c a ha => by
    split at ha
    · simp at ha
    · rename_i z
      obtain rfl : a = c := by simpa using ha
      obtain ⟨o, eo⟩ := Option.ne_none_iff_exists'.mp z
      exact ⟨by rw [rep.h.ex _ _ eo]; simp, rep.h.nsrc eo, fun q => z (rep.nown q).2.1⟩
  refine ⟨(if G c = none then [] else [c]) ++ (if G c' = none then [] else [c']), fun a ha => (List.mem_append.mp ha).elim (one c a) (one c' a), fun i H1 hi k => ?_, fun H1 k => ?_, fun i H1 x H2 G1 k g1 h1 y hi => ?_⟩
  · have h1 : i < vs.length := by rw [al.length]; rw [hl] at hi; omega
    have h2 : i < ws.length := by rw [al'.length]; rw [hl] at hi; omega
    exact ⟨vs, ws, vs[i], ws[i], (st H1 k).1, (st H1 k).2, by simp [h1], by simp [h2]⟩
  · refine ⟨vs, ws, (st H1 k).1, (st H1 k).2, ?_⟩
    rw [hl, al.length, al'.length]
    omega
  · obtain ⟨T, x1, x2, h2, h3, h4, f1, f2⟩ := y
    have f1' := f1 vs (st H1 k).1
    have f2' := f2 ws (st H1 k).2
    subst h2; subst h4
    obtain ⟨d1, e1, e2⟩ := al.getV f1'
    obtain ⟨d2, e3, e4⟩ := al'.getV f2'
    exact ⟨_, _, zip_get ds es i d1 d2 e1 e3, .tuple h1 h3 (.cons (e2.mono g1) (.cons (e4.mono g1) .nil))⟩
theorem di_zip {elts : List Expr} {kk : Nat} {tpos : Pos} (hg : Gl X "zip") (hm : X.mg "zip" = none) (h : DA X W [e, e2] ta) (hs : starEach [e, e2] X.env = (false, eval e X.env) :: starEach [e2] X.env := by rfl) (hpl : (backTo pos (starEach [e2] X.env)).any (·.1) = false := by rfl) : DI X W (.Tuple elts kk tpos) (.Call (.Name "zip" p) [e, e2] [] pos) (dItA zipR ta) := pi_imp (RZ.pi_zipA hg hm h hs hpl) fun σ H R ⟨G, so, sl, Q, E, rep, q, hq, hx⟩ => by
  refine ⟨G, so, sl, _, E, rep, q, fun vs H1 G1 ds s1 pp w q1 => ?_, hx⟩
  unfold zipR at q1
  split at q1
  · obtain ⟨v, v', rfl, w1, w2, _⟩ := w.v2
    cases w1 with
    | tup g al =>
      cases w2 with
      | tup g' al' => exact ⟨_, _, _, _, rfl, .inr ⟨ex_t pp.rep.h.ex g, ex_t pp.rep.h.ex g', hq _ H1 G1 _ s1 pp (it_zipT pp.rep g al g' al') q1⟩⟩
  · obtain ⟨v, v', rfl, w1, w2, _⟩ := w.v2
    cases w1 with
    | lst g al =>
      cases w2 with
      | lst g' al' => exact ⟨_, _, _, _, rfl, .inl ⟨SqL.of (pp.rep.h.ex _ _ g), SqL.of (pp.rep.h.ex _ _ g'), hq _ H1 G1 _ s1 pp (it_zip (pp.rep.h.ex _ _ g) al (pp.rep.h.nsrc g) (rep_own pp.rep g) (pp.rep.h.ex _ _ g') al' (pp.rep.h.nsrc g') (rep_own pp.rep g')) q1⟩⟩
  · exact q1.elim
end

/-! ### for -/
def dForL0 (g : TDG) (tb : TDS) (E : EndsD) : List D → DSt → Prop
  | [], sl => E.nx sl
  | d :: r, sl => g d sl fun s1 => tb { nx := dForL0 g tb E r, ct := dForL0 g tb E r, bk := E.nx, rt := E.rt, xc := E.xc } s1
@[irreducible] def dForL (g : TDG) (tb : TDS) (E : EndsD) (ds : List D) (sl : DSt) : Prop := dForL0 g tb E ds sl
theorem forL_nil {g : TDG} {tb : TDS} {E : EndsD} {sl : DSt} : dForL g tb E [] sl = E.nx sl := by unfold dForL; rfl
theorem forL_cons {g : TDG} {tb : TDS} {E : EndsD} {sl : DSt} {d : D} {r : List D} : dForL g tb E (d :: r) sl = g d sl fun s1 => tb { nx := dForL g tb E r, ct := dForL g tb E r, bk := E.nx, rt := E.rt, xc := E.xc } s1 := by unfold dForL; rfl
def dFor (ti : TDI) (g : TDG) (tb : TDS) : TDS := fun E sl => ti sl (fun ds s1 => dForL g tb E ds s1) E.xc
section
variable {X : Cx} {W : WX} {tg iter : Expr} {body : List Stmt} {ti : TDI} {g : TDG} {tb : TDS} {pos : Pos} {ix : List Nat} {g' : TG}
theorem ds_for (hp : PassesOwn (model X.prog X.w) X.A X.env X.xe) (hc : X.calm = true) (hi : DI X W tg iter ti) (hg : DG X ix tg g' g) (hb : DSs X W body tb) (hs : ∀ x, foldedSetIterable iter X.env x = pure x := by intro _; rfl) : DS X W (.For tg iter body [] pos) (dFor ti g tb) := by
  obtain ⟨pg, sg⟩ := hg
  refine ps_len (ps_for hp hc hi pg hb hs) fun D σ H hl ⟨G, so, sl, E, rep, q, ok⟩ => ?_
  refine ⟨G, so, sl, _, E.xc, rep, q, fun J H1 G1 ds s1 p0 it q1 => ?_, ok.xc.ex⟩
  obtain ⟨ps, prot, goes, stops, yields⟩ := it
  have same : ∀ {σ' : L2.St} {H' G' : Hp} {sl' : DSt}, PostS X.K G1 so σ H1 s1 σ' H' G' sl' → ∀ a ∈ ps, H' a = H1 a := fun {σ' H' G' sl'} t a ha => by
    obtain ⟨n, s, w⟩ := prot a ha
    obtain ⟨o, eo⟩ := Option.ne_none_iff_exists'.mp n
    rw [t.keep a o eo s w, eo]
  have ok1 := ok.step p0.s
  refine ⟨fun i m σ' H' => m = ds.length - i ∧ i ≤ ds.length ∧ ∃ G' sl', PostS X.K G1 so σ H1 s1 σ' H' G' sl' ∧ dForL g tb E (ds.drop i) sl', ⟨ds.length, by simp, Nat.zero_le _, G1, s1, .refl p0.rep, q1⟩, ?_⟩
  rintro i m σ' H' ⟨rfl, hi, G', sl', t, q2⟩
  by_cases hlt : i < ds.length
  · refine .inr ⟨goes i H' hlt (same t), fun σ'' H'' => ∃ G'' sl'', PostS X.K G1 so σ H1 s1 σ'' H'' G'' sl'' ∧ dForL g tb E (ds.drop (i + 1)) sl'', fun σ'' H'' ⟨G'', sl'', t2, q3⟩ => ⟨ds.length - (i + 1), by omega, rfl, hlt, G'', sl'', t2, q3⟩, fun x H2 y => ?_⟩
    obtain ⟨d, G2, ed, pv⟩ := yields i H' x H2 G' (same t) t.ex t.rep.h y hlt
    have pe := pv.slots t.rep
    have t2 := t.trans pe.toPost.s
    rw [List.drop_eq_getElem_cons hlt] at q2
    have ed' : ds[i] = d := by rw [List.getElem?_eq_getElem hlt] at ed; exact Option.some.inj ed
    rw [ed', forL_cons] at q2
    refine sg G2 so σ' H2 sl' x d _ _ (t.ln.trans hl) pe.rep pe.val q2 fun σ3 sl3 t3 _ q3 => ?_
    have t13 := t2.trans t3
    refine ⟨G2, so, sl3, _, t3.rep, q3, ⟨fun σ4 H4 G4 s4 t4 q4 => ⟨G4, s4, t13.trans t4, q4⟩, fun σ4 H4 G4 s4 t4 q4 => ok1.nx σ4 H4 G4 s4 (t13.trans t4) q4, fun σ4 H4 G4 s4 t4 q4 => ⟨G4, s4, t13.trans t4, q4⟩, fun v H4 G4 dv t4 q4 => ok1.rt v H4 G4 dv (t13.thenR t4) q4, ok1.xc.step t13⟩⟩
  · have e : i = ds.length := by omega
    subst e
    rw [List.drop_length, forL_nil] at q2
    exact .inl ⟨stops H' (same t), ok1.nx σ' H' G' sl' t q2⟩
end

/-! ### while -/
def dWhile (c : TDT) (tb : TDS) : TDS := fun E sl => ∃ I : Nat → DSt → Prop, (∃ m, I m sl) ∧ ∀ m s, I m s → c s (fun b s1 => Br b (tb { nx := fun s2 => ∃ m', m' < m ∧ I m' s2, ct := fun s2 => ∃ m', m' < m ∧ I m' s2, bk := E.nx, rt := E.rt, xc := E.xc } s1) (E.nx s1)) E.xc
section
variable {X : Cx} {W : WX} {c : Expr} {body : List Stmt} {tc : TDT} {tb : TDS} {pos : Pos}
theorem ds_while (hp : PassesOwn (model X.prog X.w) X.A X.env X.xe) (hc : DT X W c tc) (hb : DSs X W body tb) : DS X W (.While c body [] pos) (dWhile tc tb) := by
  refine ps_imp (ps_while hp hc hb) fun D σ H ⟨G, so, sl, E, rep, ⟨I, ⟨m0, i0⟩, turn⟩, ok⟩ => ?_
  refine ⟨fun m σ' H' => ∃ G' sl', PostS X.K G so σ H sl σ' H' G' sl' ∧ I m sl', ⟨m0, G, sl, .refl rep, i0⟩, ?_⟩
  rintro m σ' H' ⟨G', sl', t, im⟩
  have okt := ok.step t
  refine ⟨G', so, sl', _, E.xc, t.rep, turn m sl' im, fun b H1 G1 s1 p q => ?_, okt.xc.ex⟩
  have t1 := t.trans p.s
  cases b with
  | true =>
    refine iteT ?_
    refine ⟨fun σ2 H2 => ∃ m', m' < m ∧ ∃ G2 s2, PostS X.K G so σ H sl σ2 H2 G2 s2 ∧ I m' s2, fun σ2 H2 h => h, ?_⟩
    exact ⟨G1, so, s1, _, p.rep, (brt q), ⟨fun σ4 H4 G4 s4 t4 ⟨m', hm, q4⟩ => ⟨m', hm, G4, s4, t1.trans t4, q4⟩, fun σ4 H4 G4 s4 t4 q4 => ok.nx σ4 H4 G4 s4 (t1.trans t4) q4, fun σ4 H4 G4 s4 t4 ⟨m', hm, q4⟩ => ⟨m', hm, G4, s4, t1.trans t4, q4⟩, fun v H4 G4 dv t4 q4 => ok.rt v H4 G4 dv (t1.thenR t4) q4, ok.xc.step t1⟩⟩
  | false =>
    refine iteF ?_
    exact ok.nx σ' H1 G1 s1 t1 ((brf q))
end

/-! ### comprehensions -/
def wipeD (sl : DSt) : List Nat → DSt
  | [] => sl
  | v :: vs => (wipeD sl vs).set v none
def dLcL0 (g : TDG) (tt : TDT) (te : TD) (vs : List Nat) (Q : DV → DSt → Prop) : List D → List D → DSt → Prop
  | [], acc, sl => Q (.own (.lst acc)) sl
  | d :: r, acc, sl => g d sl fun s1 => tt s1 (fun b s2 => Br b (te s2 (fun x s3 => match pubV x with
    | .d y => acc.length < szl ∧ dLcL0 g tt te vs Q r (acc ++ [y]) (wipeD s3 vs)
    | _ => False) fun _ _ _ => False) (dLcL0 g tt te vs Q r acc (wipeD s2 vs))) fun _ _ _ => False
@[irreducible] def dLcL (g : TDG) (tt : TDT) (te : TD) (vs : List Nat) (Q : DV → DSt → Prop) (ds acc : List D) (sl : DSt) : Prop := dLcL0 g tt te vs Q ds acc sl
theorem lcL_nil {g : TDG} {tt : TDT} {te : TD} {vs : List Nat} {Q : DV → DSt → Prop} {acc : List D} {sl : DSt} : dLcL g tt te vs Q [] acc sl = Q (.own (.lst acc)) sl := by unfold dLcL; rfl
theorem lcL_cons {g : TDG} {tt : TDT} {te : TD} {vs : List Nat} {Q : DV → DSt → Prop} {d : D} {r acc : List D} {sl : DSt} : dLcL g tt te vs Q (d :: r) acc sl = g d sl fun s1 => tt s1 (fun b s2 => Br b (te s2 (fun x s3 => match pubV x with
    | .d y => acc.length < szl ∧ dLcL g tt te vs Q r (acc ++ [y]) (wipeD s3 vs)
    | _ => False) fun _ _ _ => False) (dLcL g tt te vs Q r acc (wipeD s2 vs))) fun _ _ _ => False := by unfold dLcL; rfl
def dLc (ti : TDI) (g : TDG) (tt : TDT) (te : TD) (vs : List Nat) : TD := fun sl Q E => ti sl (fun ds s1 => dLcL g tt te vs Q ds [] (wipeD s1 vs)) E
def dYes : TDT := fun sl Q _ => Q true sl
def DTs (X : Cx) (W : WX) (ifs : List Expr) (t : TDT) : Prop := PTs X ifs (upT X.K W t)
abbrev W0 : WX := fun _ _ _ _ => False
section
variable {X : Cx} {W : WX}
theorem dts_nil : DTs X W [] dYes := ⟨fun pins s σ H Q I ⟨G, so, sl, Q', E, rep, q, hq, hx⟩ => pts_nil.run pins s σ H Q I (hq true H G sl (.refl rep) q)⟩
theorem dts_one {c : Expr} {t : TDT} (h : DT X W c t) : DTs X W [c] t := pts_one h
section
variable {K : PySem.W.Frag} {G : Hp} {so : Option Addr} {σ : L2.St} {H : Hp} {sl : DSt} {vs : List Nat}
theorem wipeD_some {i : Nat} {x : DV} : ∀ {vs : List Nat}, (wipeD sl vs)[i]? = some (some x) → sl[i]? = some (some x) ∧ i ∉ vs
  | [], h => ⟨h, by simp⟩
  | v :: vs, h => by
    unfold wipeD at h
    rcases get_set h with ⟨rfl, e⟩ | ⟨ne, e⟩
    · cases e
    · obtain ⟨q1, q2⟩ := wipeD_some e
      exact ⟨q1, fun z => (List.mem_cons.mp z).elim ne q2⟩
theorem wipeD_len : ∀ (vs : List Nat), (wipeD sl vs).length = sl.length
  | [] => rfl
  | v :: vs => by unfold wipeD; rw [List.length_set, wipeD_len vs]
theorem own_wipe {c : Addr} (h : Own (wipeD sl vs) (wipe σ vs) c) : Own sl σ c := by
  obtain ⟨i, o, e1, e2⟩ := h
  exact ⟨i, o, (wipeD_some e1).1, (wipe_some e2).1⟩
theorem Rep.wipe (r : Rep K G so σ H sl) (vs : List Nat) : Rep K G so (L2.wipe σ vs) H (wipeD sl vs) :=
  ⟨r.h, by rw [wipeD_len, wipe_length]; exact r.len, fun i d e => by
    obtain ⟨e1, n⟩ := wipeD_some e
    obtain ⟨v, f1, f2⟩ := r.slots i d e1
    exact ⟨v, by rw [wipe_out n]; exact f1, f2⟩,
    fun i j o o' a e1 e2 e3 e4 => r.sep i j o o' a (wipeD_some e1).1 (wipeD_some e2).1 (wipe_some e3).1 (wipe_some e4).1,
    fun i o a e1 e2 z => r.bor i o a (wipeD_some e1).1 (wipe_some e2).1 (own_wipe z), fun i o e => r.nse i o (wipeD_some e).1⟩
/-- fewer slots known -/
theorem Rep.wipe2 (r : Rep K G so σ H sl) (vs : List Nat) (hv : ∀ i ∈ vs, σ[i]? = σ[i]?) : Rep K G so σ H (wipeD sl vs) :=
  ⟨r.h, by rw [wipeD_len]; exact r.len, fun i d e => r.slots i d (wipeD_some e).1,
    fun i j o o' a e1 e2 e3 e4 => r.sep i j o o' a (wipeD_some e1).1 (wipeD_some e2).1 e3 e4,
    fun i o a e1 e2 ⟨j, o', f1, f2⟩ => r.bor i o a (wipeD_some e1).1 e2 ⟨j, o', (wipeD_some f1).1, f2⟩, fun i o e => r.nse i o (wipeD_some e).1⟩
theorem wipe_eq {σ1 σ2 : L2.St} (hl : σ1.length = σ2.length) (h : ∀ j, j ∉ vs → σ1[j]? = σ2[j]?) : wipe σ1 vs = wipe σ2 vs := by
  have z : ∀ (σ : L2.St) (j : Nat) (vs : List Nat), j ∈ vs → j < σ.length → (wipe σ vs)[j]? = some none := by
    intro σ j vs
    induction vs with
    | nil => intro h; simp at h
    | cons v r ih =>
      intro hm hj
      unfold wipe
      by_cases e : v = j
      · subst e; rw [List.getElem?_set_self (by rw [wipe_length]; exact hj)]
      · rw [List.getElem?_set_ne e]
        rcases List.mem_cons.mp hm with q | q
        · exact absurd q.symm e
        · exact ih q hj
  refine List.ext_getElem? fun j => ?_
  by_cases m : j ∈ vs
  · by_cases hj : j < σ1.length
    · rw [z σ1 j vs m hj, z σ2 j vs m (by rw [← hl]; exact hj)]
    · rw [List.getElem?_eq_none (by rw [wipe_length]; omega), List.getElem?_eq_none (by rw [wipe_length]; omega)]
  · rw [wipe_out m, wipe_out m]; exact h j m
theorem wipe_twice (vs : List Nat) : L2.wipe (L2.wipe σ vs) vs = L2.wipe σ vs := wipe_eq (wipe_length σ vs) fun j m => wipe_out m
/-- back from the block -/
theorem Post.unwipe {H1 G1 : Hp} {s1 : DSt} (r : Rep K G so σ H sl) (p : Post K G so (L2.wipe σ vs) H (wipeD sl vs) H1 G1 s1) : Post K G so σ H sl H1 G1 s1 := by
  have lk : ∀ (i : Nat) (dv : DV), s1[i]? = some (some dv) → (L2.wipe σ vs)[i]? = σ[i]? := fun i dv e => by
    obtain ⟨v, f1, _⟩ := p.rep.slots i dv e
    rw [f1, (wipe_some f1).1]
  have ow : ∀ c, Own s1 σ c → Own s1 (L2.wipe σ vs) c := fun c ⟨i, o, e1, e2⟩ => ⟨i, o, e1, by rw [lk i _ e1]; exact e2⟩
  refine ⟨p.ex, ⟨p.rep.h, by rw [p.rep.len, wipe_length], fun i dv e => ?_, fun i j o o' a e1 e2 e3 e4 => ?_, fun i o a e1 e2 z => ?_, p.rep.nse⟩, p.keep, fun a n g s w => p.frm a n g s fun z => w (own_wipe z), fun a z => own_wipe (p.sub a (ow a z)), fun i o e => let ⟨o1, e1⟩ := p.bsub i o e; ⟨o1, (wipeD_some e1).1⟩⟩
  · obtain ⟨v, f1, f2⟩ := p.rep.slots i dv e
    exact ⟨v, (wipe_some f1).1, f2⟩
  · exact p.rep.sep i j o o' a e1 e2 (by rw [lk i _ e1]; exact e3) (by rw [lk j _ e2]; exact e4)
  · exact p.rep.bor i o a e1 (by rw [lk i _ e1]; exact e2) (ow a z)
end
variable {elt tg iter : Expr} {ifs : List Expr} {scope : Scope} {own : List (Str × Nat)} {pos spos : Pos} {ti : TDI} {g : TDG} {tt : TDT} {te : TD} {ix : List Nat}
theorem up_lc {K : PySem.W.Frag} {n : Nat} {g' : TG} {σ : L2.St} {H : Hp} {R : VK} (vs : List Nat) (hl : σ.length = n) (sg : GSem K n ix g' g) (hix : ∀ j, j ∈ ix → j ∈ vs) (h : up K W (dLc ti g tt te vs) σ H R) : tLc (upI K W ti) g' (upT K W0 tt) (up K W0 te) vs σ H R := by
  obtain ⟨G, so, sl, Q, E, rep, q, hq, hx⟩ := h
  refine ⟨G, so, sl, _, E, rep, q, fun J H1 G1 ds s1 p0 it q1 => ?_, hx⟩
  obtain ⟨ps, prot, goes, stops, yields⟩ := it
  intro C hC
  have nsC : so ≠ some C := p0.rep.h.there hC
  have rw1 := p0.rep.wipe vs
  have psC : ∀ a ∈ ps, a ≠ C := fun a ha z => (prot a ha).1 (z ▸ hC)
  -- the list so far stands at C; all else is as behind an expression
  refine ⟨fun i m H' => m = ds.length - i ∧ i ≤ ds.length ∧ ∃ G' sl' us acc, Post K G1 so (L2.wipe σ vs) H1 (wipeD s1 vs) H' G' sl' ∧ H' C = some (.lst us) ∧ G' C = none ∧ DAll K G' us acc ∧ dLcL g tt te vs Q (ds.drop i) acc sl',
    ⟨ds.length, by simp, Nat.zero_le _, G1, _, [], [], ?_, upd_same, p0.rep.h.ex.free hC, .nil, q1⟩, ?_⟩
  · have pv := PostV.list (K := K) (G := G1) (so := so) (ds := []) rw1.h hC .nil
    exact (pv.slots rw1).toPost
  rintro i m H' ⟨rfl, hi, G', sl', us, acc, t, hCl, gC, al, q2⟩
  have same : ∀ a ∈ ps, H' a = H1 a := fun a ha => by
    obtain ⟨n1, s, w⟩ := prot a ha
    exact keep_ne t.keep n1 s
  have noC : ∀ {sl'' : DSt} {σ'' : L2.St}, (∀ a, Own sl'' σ'' a → Own (wipeD s1 vs) (L2.wipe σ vs) a) → ¬ Own sl'' σ'' C := fun f z => (p0.rep.nown (own_wipe (f C z))).1 hC
  have borC : ∀ (j : Nat) (o : OO), (wipeD s1 vs)[j]? = some (some (.bor o)) → (L2.wipe σ vs)[j]? = some (some (.ref C)) → False := fun j o e1 e2 => by
    obtain ⟨v, f1, f2⟩ := rw1.slots j _ e1
    rw [e2] at f1; cases f1
    obtain ⟨b, z, _, k⟩ := f2
    cases z
    exact k.there hC
  by_cases hlt : i < ds.length
  · refine .inr ⟨goes i H' hlt same, fun H'' => ∃ G'' sl'' us' acc', Post K G1 so (L2.wipe σ vs) H1 (wipeD s1 vs) H'' G'' sl'' ∧ H'' C = some (.lst us') ∧ G'' C = none ∧ DAll K G'' us' acc' ∧ dLcL g tt te vs Q (ds.drop (i + 1)) acc' sl'',
      fun H'' ⟨G'', sl'', us', acc', h1, h2, h3, h4, h5⟩ => ⟨ds.length - (i + 1), by omega, rfl, hlt, G'', sl'', us', acc', h1, h2, h3, h4, h5⟩, fun x H2 y => ?_⟩
    obtain ⟨d, G2, ed, pv⟩ := yields i H' x H2 G' same t.ex t.rep.h y hlt
    have pe := pv.slots t.rep
    have C2 : H2 C = some (.lst us) := pe.keep C _ hCl nsC
    have g2 : G2 C = none := pe.frm C (by rw [hCl]; simp) gC nsC (noC t.sub)
    rw [List.drop_eq_getElem_cons hlt] at q2
    have ed' : ds[i] = d := by rw [List.getElem?_eq_getElem hlt] at ed; exact Option.some.inj ed
    rw [ed', lcL_cons] at q2
    refine sg G2 so _ H2 sl' x d _ _ ((wipe_length σ vs).trans hl) pe.rep pe.val q2 fun σ3 sl3 t3 u3 q3 => ?_
    have e3 : L2.wipe σ3 vs = L2.wipe σ vs := by
      rw [← wipe_twice (σ := σ) vs]
      exact wipe_eq t3.ln fun j hj => (u3 j fun z => hj (hix j z)).1
    have sub3 : ∀ a, Own (wipeD sl3 vs) (L2.wipe σ3 vs) a → Own (wipeD s1 vs) (L2.wipe σ vs) a := fun a z => by
      rw [e3] at z
      by_cases w : Own sl' (L2.wipe σ vs) a
      · exact t.sub a w
      · obtain ⟨j, o, z1, z2⟩ := z
        have z2' : σ3[j]? = some (some (.ref a)) := by
          rw [← e3] at z2; exact (wipe_some z2).1
        have ow3 : Own sl3 σ3 a := ⟨j, o, (wipeD_some z1).1, z2'⟩
        obtain ⟨n1, g1, s1'⟩ := t3.rep.nown ow3
        exact absurd ow3 (t3.sub a n1 s1' w)
    have sub3' : ∀ a, Own sl3 σ3 a → Own sl' (L2.wipe σ vs) a := fun a z => by
      by_cases w : Own sl' (L2.wipe σ vs) a
      · exact w
      · obtain ⟨n1, g1, s1'⟩ := t3.rep.nown z
        exact absurd z (t3.sub a n1 s1' w)
    have bs3 : ∀ (j : Nat) (o : OO), sl3[j]? = some (some (.bor o)) → j ∉ vs → ∃ o', (wipeD s1 vs)[j]? = some (some (.bor o')) := fun j o e n => by
      rw [(u3 j fun z => n (hix j z)).2] at e
      exact t.bsub j o e
    refine ⟨e3, G2, so, sl3, _, fun _ _ _ => False, t3.rep, q3, fun b H4 G4 s4 p4 q4 => ?_, fun _ _ _ _ _ _ _ _ z => z⟩
    have C4 : H4 C = some (.lst us) := p4.keep C _ C2 nsC
    have n3C : ¬ Own sl3 σ3 C := fun z => noC t.sub (sub3' C z)
    have g4 : G4 C = none := p4.frm C (by rw [C2]; simp) g2 nsC n3C
    have k4 : ∀ a o, H1 a = some o → so ≠ some a → H4 a = some o := fun a o e s => p4.keep a o (pe.keep a o (t.keep a o e s) s) s
    have f4 : ∀ a, H1 a ≠ none → G1 a = none → so ≠ some a → ¬ Own (wipeD s1 vs) (L2.wipe σ vs) a → G4 a = none := fun a n1 g1 s w => by
      have n2 : ¬ Own sl' (L2.wipe σ vs) a := fun z => w (t.sub a z)
      have h' : H' a ≠ none := by rw [keep_ne t.keep n1 s]; exact n1
      have h2 : H2 a ≠ none := by rw [keep_ne pe.keep h' s]; exact h'
      exact p4.frm a h2 (pe.frm a h' (t.frm a n1 g1 s w) s n2) s fun z => n2 (sub3' a z)
    have bs4 : ∀ (j : Nat) (o : OO), s4[j]? = some (some (.bor o)) → j ∉ vs → ∃ o', (wipeD s1 vs)[j]? = some (some (.bor o')) := fun j o e n => by
      obtain ⟨o1, e1⟩ := p4.bsub j o e
      exact bs3 j o1 e1 n
    cases b with
    | false =>
      refine iteF ⟨G4, wipeD s4 vs, us, acc, ⟨t.ex.trans (pe.ex.trans p4.ex), ?_, k4, f4, fun a z => ?_, fun j o e => bs4 j o (wipeD_some e).1 (wipeD_some e).2⟩, C4, g4, al.mono (pe.ex.trans p4.ex), (brf q4)⟩
      · have r := p4.rep.wipe vs; rw [e3] at r; exact r
      · refine t.sub a (sub3' a (p4.sub a (own_wipe (vs := vs) ?_)))
        rw [e3]; exact z
    | true =>
      refine iteT ⟨G4, so, s4, _, fun _ _ _ => False, p4.rep, (brt q4), fun y H5 G5 dy s5 p5' q5 => ?_, fun _ _ _ _ _ _ _ _ z => z⟩
      obtain ⟨G6, p5⟩ := p5'.pub
      have wv := p5.val
      split at q5
      · rename_i yd ey
        rw [ey] at wv
        have n4C : ¬ Own s4 σ3 C := fun z => n3C (p4.sub C z)
        have C5 : H5 C = some (.lst us) := p5.keep C _ C4 nsC
        have g5 : G6 C = none := p5.frm C (by rw [C4]; simp) g4 nsC n4C
        have k5 : ∀ a o, H1 a = some o → so ≠ some a → H5 a = some o := fun a o e s => p5.keep a o (k4 a o e s) s
        have f5 : ∀ a, H1 a ≠ none → G1 a = none → so ≠ some a → ¬ Own (wipeD s1 vs) (L2.wipe σ vs) a → G6 a = none := fun a n1 g1 s w => by
          have n2 : ¬ Own sl' (L2.wipe σ vs) a := fun z => w (t.sub a z)
          have h4 : H4 a ≠ none := by rw [keep_ne k4 n1 s]; exact n1
          exact p5.frm a h4 (f4 a n1 g1 s w) s fun z => n2 (sub3' a (p4.sub a z))
        have bs5 : ∀ (j : Nat) (o : OO), s5[j]? = some (some (.bor o)) → j ∉ vs → ∃ o', (wipeD s1 vs)[j]? = some (some (.bor o')) := fun j o e n => by
          obtain ⟨o1, e1⟩ := p5.bsub j o e
          exact bs4 j o1 e1 n
        have al5 : DAll K G6 us acc := al.mono (pe.ex.trans (p4.ex.trans p5.ex))
        have lu : us.length = acc.length := al5.length
        refine ⟨us, C5, by rw [lu, ← szl_eq]; exact q5.1, G6, wipeD s5 vs, us ++ [y], acc ++ [yd], ⟨t.ex.trans (pe.ex.trans (p4.ex.trans p5.ex)), ?_, fun a o e s => ?_, f5, fun a z => ?_, fun j o e => bs5 j o (wipeD_some e).1 (wipeD_some e).2⟩, upd_same, g5, al5.append (.cons wv .nil), q5.2⟩
        · have r := p5.rep.wipe vs
          rw [e3] at r
          -- the heap changes at C alone
          refine ⟨⟨fun a o e => ?_, fun a e => ?_⟩, r.len, fun j dv e => ?_, r.sep, r.bor, r.nse⟩
          · rw [upd_ne (ne_of_none e g5)]; exact r.h.ex a o e
          · exact (r.h.src a e).keep (Ex.refl _) (r.h.src a e).1 (upd_ne fun z => nsC (z ▸ e))
          · obtain ⟨v, f1, f2⟩ := r.slots j dv e
            refine ⟨v, f1, ?_⟩
            have key : ∀ a : Addr, a ≠ C → (upd H5 C (.lst (us ++ [y]))) a = H5 a := fun a z => upd_ne z
            cases dv with
            | d z => exact f2
            | src => exact f2
            | own o =>
              obtain ⟨a, r1, r2, r3, r4⟩ := f2
              subst r1
              have z : a ≠ C := fun z => by
                subst z
                exact noC (fun a z => t.sub a (sub3' a (p4.sub a (p5.sub a (own_wipe (vs := vs) (by rw [e3]; exact z)))))) ⟨j, o, e, f1⟩
              exact ⟨a, rfl, r2, r3, r4.keep (Ex.refl _) (key a z)⟩
            | bor o =>
              obtain ⟨a, r1, r3, r4⟩ := f2
              subst r1
              have z : a ≠ C := fun z => by
                subst z
                obtain ⟨o1, z1⟩ := bs5 j o (wipeD_some e).1 (wipeD_some e).2
                exact borC j o1 z1 f1
              exact ⟨a, rfl, r3, r4.keep (Ex.refl _) (key a z)⟩
            | see o => exact absurd e (r.nse j o)
        · rw [upd_ne (fun z => by subst z; rw [hC] at e; cases e)]; exact k5 a o e s
        · exact t.sub a (sub3' a (p4.sub a (p5.sub a (own_wipe (vs := vs) (by rw [e3]; exact z)))))
      · exact q5.elim
  · have e : i = ds.length := by omega
    subst e
    rw [List.drop_length, lcL_nil] at q2
    refine .inl ⟨stops H' same, hq _ H' G' _ sl' ?_ q2⟩
    have pu := t.unwipe p0.rep
    refine (p0.thenE { pu with val := ⟨C, rfl, gC, nsC, us, hCl, al⟩, new := fun a o _ z => ?_, sepv := fun a o _ z w => ?_, nbs := fun a o j o' _ z e1 e2 => ?_ })
    · cases z; exact .inl hC
    · cases z; exact (p0.rep.nown (pu.sub _ w)).1 hC
    · cases z
      obtain ⟨o1, z1⟩ := t.bsub j o' e1
      have lkj : (L2.wipe σ vs)[j]? = some (some (.ref C)) := by rw [wipe_out (wipeD_some z1).2]; exact e2
      exact borC j o1 z1 lkj
/-- as a value -/
theorem de_lc {g' : TG} (hc : X.calm = true) (hN : X.N.Nodup) (hi : DI X W tg iter ti) (ok : BlkOk X.N X.env.scope scope own)
    (hg : ∀ s H C cl fp, DG (X.blk s H scope (compEnvC scope cl C X.env) fp) ix tg g' g) (ht : ∀ s H C cl fp, DTs (X.blk s H scope (compEnvC scope cl C X.env) fp) W0 ifs tt)
    (he : ∀ s H C cl fp, DE (X.blk s H scope (compEnvC scope cl C X.env) fp) W0 elt te) (hix : ∀ j, j ∈ ix → j ∈ own.map (·.2) := by decide) (hs : ∀ x, foldedSetIterable iter X.env x = pure x := by intro _; rfl) :
    DE X W (.ListComp elt [⟨tg, iter, ifs, 0⟩] scope pos) (dLc ti g tt te (own.map (·.2))) := by
  have b := pe_lc (tt := upT X.K W0 tt) (te := up X.K W0 te) (ifs := ifs) (elt := elt) (pos := pos) hc hN hi ok (fun s H C cl fp => (hg s H C cl fp).pg) ht he hs
  exact ⟨fun pins s σ H Q I q => b.run pins s σ H Q I (up_lc _ I.len (hg s H 0 [] []).sem hix q)⟩
/-- name = [..] -/
theorem ds_setLc {g' : TG} {i : Nat} {y : Str} {py : Pos} (hc : X.calm = true) (hN : X.N.Nodup) (hy : X.N[i]? = some y) (hyl : X.env.scope.names.lookup y = some .local) (hsw : swapsWith (.ListComp elt [⟨tg, iter, ifs, 0⟩] scope pos) (some (.Name y py)) spos.line X.env = pure true)
    (hi : DI X W tg iter ti) (ok : BlkOk X.N X.env.scope scope own)
    (hg : ∀ s H C cl fp, DG (X.blk s H scope (compEnvC scope cl C X.env) fp) ix tg g' g) (ht : ∀ s H C cl fp, DTs (X.blk s H scope (compEnvC scope cl C X.env) fp) W0 ifs tt)
    (he : ∀ s H C cl fp, DE (X.blk s H scope (compEnvC scope cl C X.env) fp) W0 elt te) (hix : ∀ j, j ∈ ix → j ∈ own.map (·.2) := by decide) (hs : ∀ x, foldedSetIterable iter X.env x = pure x := by intro _; rfl) :
    DS X W (.Assign [.Name y py] (.ListComp elt [⟨tg, iter, ifs, 0⟩] scope pos) spos) (dSet (dLc ti g tt te (own.map (·.2))) i) := by
  have b := ps_setLc (tt := upT X.K W0 tt) (te := up X.K W0 te) (pos := pos) (spos := spos) (py := py) hc hN hy hyl hsw hi ok (fun s H C cl fp => (hg s H C cl fp).pg) ht he hs
  refine ⟨fun pins s σ H D I q => b.run pins s σ H D I ?_⟩
  have q2 := up_set (K := X.K) (W := W) (te := dLc ti g tt te (own.map (·.2))) (i := i) (D := D) (σ := σ) (H := H) (fun _ => by rw [I.len]; exact (List.getElem?_eq_some_iff.mp hy).1) q
  exact up_lc _ I.len (hg s H 0 [] []).sem hix q2
end
end DL

set_option Elab.async false
set_option linter.all false
set_option maxRecDepth 100000
set_option autoImplicit false
set_option maxHeartbeats 2000000
namespace DL
open PySem PySem.Spec PyProof.Rows L2

/-! ### promises of defs over trees -/
abbrev XE' := Value → List (Str × D) → Prop
abbrev SpD := List DV → (DV → Prop) → XE' → Prop
structure PostH (K : PySem.W.Frag) (G : Hp) (so : Option Addr) (H : Hp) (H' G' : Hp) : Prop where
  ex : Ex G G'
  hrep : HRep K G' so H'
  keep : ∀ a o, H a = some o → so ≠ some a → H' a = some o
  frm : ∀ a, H a ≠ none → G a = none → so ≠ some a → G' a = none
def upSp (K : PySem.W.Frag) (sp : SpD) : Sp := fun vs H Q E => ∃ G so args QD ED, HRep K G so H ∧ VsOk K G so H vs args ∧ sp args QD ED ∧ (∀ v H' G' dv, PostV K G so H v H' G' dv → QD dv → Q v H') ∧
  (∀ cls d H' G' fs, PostH K G so H H' G' → XdOk K G' H' d fs → ED cls fs → E cls d H')
/-- the def at f keeps the promise sp; nothing is being shown by repr around it -/
structure FnG (P : Program) (w : World) (K : PySem.W.Frag) (mg : Str → Option Value) (base : Heap) (k : Nat) (f : Addr) (fd : FuncData) (ps : List Str) (sp : SpD) : Prop where
  len : ∀ args Q E, sp args Q E → args.length = ps.length
  run : ∀ (A : Around) (outer : List Env) (s : Shared) (H : Hp) (args : Args) (us : List Value) (vs : List V) (Q : VK) (E : XK), Room k A → A.guards = some [] → Env0 P w K mg base A outer s H → BindsTo s fd args (ps.zip us) → Vals vs us → upSp K sp vs H Q E →
    codeAny (model P w) A (.call (.ref f) args) (CR (L2.CX P w) outer P w H s Q E) s
theorem FnG.mono {P : Program} {w : World} {K : PySem.W.Frag} {mg : Str → Option Value} {base : Heap} {j k : Nat} {f : Addr} {fd : FuncData} {ps : List Str} {sp : SpD} (F : FnG P w K mg base j f fd ps sp) (h : j ≤ k) : FnG P w K mg base k f fd ps sp :=
  ⟨F.len, fun A outer s H args us vs Q E hr => F.run A outer s H args us vs Q E (hr.mono h)⟩
theorem FnG.imp {P : Program} {w : World} {K : PySem.W.Frag} {mg : Str → Option Value} {base : Heap} {k : Nat} {f : Addr} {fd : FuncData} {ps : List Str} {sp sp' : SpD} (F : FnG P w K mg base k f fd ps sp) (h : ∀ a Q E, sp' a Q E → sp a Q E) : FnG P w K mg base k f fd ps sp' :=
  ⟨fun a Q E q => F.len a Q E (h _ _ _ q), fun A outer s H args us vs Q E hr hg e0 hb hv ⟨G, so, as, QD, ED, r, v, q, z1, z2⟩ => F.run A outer s H args us vs Q E hr hg e0 hb hv ⟨G, so, as, QD, ED, r, v, h _ _ _ q, z1, z2⟩⟩

def startD (N : List Str) (args : List DV) : DSt := args.map some ++ List.replicate (N.length - args.length) none
theorem VsOk.get {K : PySem.W.Frag} {G : Hp} {so : Option Addr} {H : Hp} : ∀ {vs : List V} {ds : List DV} {i : Nat} {d : DV}, VsOk K G so H vs ds → ds[i]? = some d → ∃ v, vs[i]? = some v ∧ VOk K G so H v d ∧ ∀ o, d ≠ .own o
  | _, _, _, _, .nil, e => by simp at e
  | _, _, 0, _, .cons h n _, e => by simp at e; subst e; exact ⟨_, rfl, h, n⟩
  | _, _, i + 1, _, .cons _ _ t, e => by
    obtain ⟨v, h1, h2⟩ := VsOk.get (i := i) t (by simpa using e)
    exact ⟨v, by simpa using h1, h2⟩
theorem start_get {N : List Str} {args : List DV} {i : Nat} {d : DV} (h : (startD N args)[i]? = some (some d)) : args[i]? = some d := by
  unfold startD at h
  by_cases hi : i < args.length
  · rw [List.getElem?_append_left (by simpa using hi), List.getElem?_map] at h
    cases e : args[i]? with
    | none => rw [e] at h; cases h
    | some a => rw [e] at h; cases h; rfl
  · rw [List.getElem?_append_right (by simpa using hi), List.getElem?_replicate] at h
    split at h <;> cases h
theorem rep_start {K : PySem.W.Frag} {G : Hp} {so : Option Addr} {H : Hp} {N : List Str} {vs : List V} {args : List DV} (h : HRep K G so H) (w : VsOk K G so H vs args) (ns : ∀ (i : Nat) (o : OO), args[i]? ≠ some (.see o)) : Rep K G so (L2.start N vs) H (startD N args) := by
  have lv := w.length
  have no : ∀ a, ¬ Own (startD N args) (L2.start N vs) a := fun a ⟨i, o, e, _⟩ => by
    obtain ⟨_, _, _, n⟩ := w.get (start_get e)
    exact n o rfl
  refine ⟨h, by unfold startD L2.start; simp [lv], fun i d e => ?_, fun i j o o' a e1 _ _ _ => ?_, fun i o a _ _ => no a, fun i o e => ns i o (start_get e)⟩
  · obtain ⟨v, e1, e2, _⟩ := w.get (start_get e)
    refine ⟨v, ?_, e2⟩
    unfold L2.start
    have hi : i < vs.length := (List.getElem?_eq_some_iff.mp e1).1
    rw [List.getElem?_append_left (by simpa using hi), List.getElem?_map, e1]; rfl
  · obtain ⟨_, _, _, n⟩ := w.get (start_get e1)
    exact absurd rfl (n o)
/-- what a def may hand back -/
def retQ (Q : DV → Prop) : DV → Prop
  | .see _ => False
  | .bor _ => False
  | v => Q v
theorem retQ_of {Q : DV → Prop} {v : DV} (h : retQ Q v) : (∀ o, v ≠ .bor o) ∧ Q v := by
  cases v with
  | d x => exact ⟨fun _ z => (nomatch z), h⟩
  | src => exact ⟨fun _ z => (nomatch z), h⟩
  | own o => exact ⟨fun _ z => (nomatch z), h⟩
  | bor o => exact h.elim
  | see o => exact h.elim
theorem deeper_guards (A : Around) (env : Env) : (A.deeper env).guards = A.guards := rfl
/-- THE RULE for a def: t is its body's reading -/
theorem fnG_of {P : Program} {w : World} {K : PySem.W.Frag} {mg : Str → Option Value} {base : Heap} {x qual : Str} {params : Arguments} {body : List Stmt} {scope : Scope} {dvs : List V} {kws : List (Str × V)} {f : Addr} {fd : FuncData} {N ps : List Str} {k : Nat} {sp : SpD} {t : TDS}
    (F : FunD K x qual params body scope dvs kws f fd) (S : FnScope N ps scope) (len : ∀ args Q E, sp args Q E → args.length = ps.length) (nsee : ∀ args Q E, sp args Q E → ∀ (i : Nat) (o : OO), args[i]? ≠ some (.see o))
    (hd : ∀ (cdv : Value) (A : Around) (outer : List Env) (s : Shared) (H : Hp) (E : XK), Room k (A.deeper (envOfC qual scope s.heap.objs.size f cdv)) → (cxOf (L2.CX P w) P w K mg base N qual scope f cdv A outer s H E).A.guards = some [] →
      DSs (cxOf (L2.CX P w) P w K mg base N qual scope f cdv A outer s H E) (fun cls d _ H' => E cls d H') body t)
    (hr : ∀ args Q E, sp args Q E → t { nx := fun _ => Q (.d .non), rt := retQ Q, bk := fun _ => False, ct := fun _ => False, xc := fun cls fs _ => E cls fs } (startD N args)) : FnG P w K mg base (k + 1) f fd ps sp := by
  obtain ⟨oc, od, dV, kV, doc, pm, an, cdv, ct, osl, rfl, lk, hcd, _, _⟩ := F.ex
  refine ⟨len, fun A outer s H args us vs Q E hroom hg e0 hb r hsp => ?_⟩
  obtain ⟨G, so, as, QD, ED, hrep, wv, q, hq, hx⟩ := hsp
  have hl : vs.length = ps.length := wv.length.trans (len _ _ _ q)
  have KX : K.In s.heap := e0.mod.kin.keeps fun b o e => (e0.bs b o e).1
  have lim : s.heap.NoLimit := e0.mod.nolimit.keeps fun b o e => (e0.bs b o e).1
  have hkind : ((ps.zip us).all fun y => scope.names.lookup y.1 == some .local || scope.names.lookup y.1 == some .cell) = true := by
    rw [List.all_eq_true]
    rintro ⟨n, u⟩ hy
    rcases S.par n (List.of_mem_zip hy).1 with z | z
    · show (scope.names.lookup n == some .local || _) = true
      rw [z]; rfl
    · show (scope.names.lookup n == some .local || scope.names.lookup n == some .cell) = true
      rw [z]; rfl
  refine Att.call_fn KX lim lk hcd hroom.depth hb hkind (fun s1 x => ?_) S.co S.gen S.kind
  have I := inv_start (CX := L2.CX P w) (E := E) S hroom.hd e0 hl r x
  have rep : Rep K G so (L2.start N vs) H (startD N as) := rep_start hrep wv (nsee _ _ _ q)
  have no : ∀ a, ¬ Own (startD N as) (L2.start N vs) a := fun a ⟨i, o, e, _⟩ => by
    obtain ⟨_, _, _, n⟩ := wv.get (start_get e)
    exact n o rfl
  have body := (hd cdv A outer s H E (hroom.deeper _) hg).run [] s1 (L2.start N vs) H { nx := fun _ H' => Q .non H', rt := Q } I ⟨G, so, startD N as, _, rep, hr as QD ED q,
    ⟨fun σ' H' G' sl' p z => hq .non H' G' (.d .non) ⟨p.ex, p.rep.h, fun a o e sa => p.keep a o e sa (no a), fun a n g sa => p.frm a n g sa (no a), .non, fun _ _ e => (nomatch e), fun _ e => (nomatch e)⟩ z,
     fun _ _ _ _ _ z => z.elim, fun _ _ _ _ _ z => z.elim,
     fun v H' G' dv p z => hq v H' G' dv ⟨p.ex, p.hrep, fun a o e sa => p.keep a o e sa (no a), fun a n g sa => p.frm a n g sa (no a), p.val, fun a o e e2 => (p.new a o e e2).elim (fun k => k) fun k => absurd k (no a), (retQ_of z).1⟩ (retQ_of z).2,
     fun cls d σ' H' G' fs sl' p z1 z2 => hx cls d H' G' fs ⟨p.ex, p.rep.h, fun a o e sa => p.keep a o e sa (no a), fun a n g sa => p.frm a n g sa (no a)⟩ z1 z2⟩⟩
  refine wpAny_mono body (fun fl s' hs => ?_) fun e s' hs => hs
  cases fl with
  | ret u =>
    obtain ⟨v, σ', H', J, rv, z⟩ := hs
    exact ⟨v, H', J.os, J.bare, J.base, J.hok, rv, z⟩
  | next =>
    obtain ⟨σ', H', J, z⟩ := hs
    exact ⟨.non, H', J.os, J.bare, J.base, J.hok, rfl, z⟩
  | brk =>
    obtain ⟨_, _, _, z⟩ := hs
    exact False.elim z
  | cont =>
    obtain ⟨_, _, _, z⟩ := hs
    exact False.elim z

/-! ### how arguments come to parameters -/
inductive Sel where
  | pos (i : Nat) | kw (j : Nat) | dfl (v : V) (d : D)
def pickV (vs qs : List V) : Sel → V
  | .pos i => vs.getD i .non
  | .kw j => qs.getD j .non
  | .dfl v _ => v
def pickD (vs qs : List DV) : Sel → DV
  | .pos i => vs.getD i (.d .non)
  | .kw j => qs.getD j (.d .non)
  | .dfl _ d => .d d
/-- n positional values, keywords named ks -/
structure Bd (K : PySem.W.Frag) (fd : FuncData) (ps : List Str) (n : Nat) (ks : List Str) (sel : List Sel) : Prop where
  to : ∀ (s : Shared) (us ws : List Value) (vs qs : List V), K.In s.heap → us.length = n → ws.length = ks.length → Vals vs us → Vals qs ws → ∃ zs, BindsTo s fd ⟨us, ks.zip ws⟩ (ps.zip zs) ∧ Vals (sel.map (pickV vs qs)) zs
  dok : ∀ s ∈ sel, ∀ (v : V) (d : D), s = .dfl v d → ∀ G, DOk K G v d
theorem VsOk.getD {K : PySem.W.Frag} {G : Hp} {so : Option Addr} {H : Hp} : ∀ {vs : List V} {ds : List DV} (i : Nat), VsOk K G so H vs ds → VOk K G so H (vs.getD i .non) (ds.getD i (.d .non)) ∧ ∀ o, ds.getD i (.d .non) ≠ .own o
  | _, _, _, .nil => ⟨.non, fun _ e => (nomatch e)⟩
  | _, _, 0, .cons h n _ => ⟨h, n⟩
  | _, _, i + 1, .cons _ _ t => VsOk.getD i t
theorem VsOk.pick {K : PySem.W.Frag} {G : Hp} {so : Option Addr} {H : Hp} {vs qs : List V} {ds es : List DV} (h : VsOk K G so H vs ds) (h2 : VsOk K G so H qs es) : ∀ (sel : List Sel), (∀ s ∈ sel, ∀ (v : V) (d : D), s = .dfl v d → ∀ G, DOk K G v d) → VsOk K G so H (sel.map (pickV vs qs)) (sel.map (pickD ds es))
  | [], _ => .nil
  | .pos i :: r, k => .cons (h.getD i).1 (h.getD i).2 (VsOk.pick h h2 r fun s hs => k s (List.mem_cons_of_mem _ hs))
  | .kw j :: r, k => .cons (h2.getD j).1 (h2.getD j).2 (VsOk.pick h h2 r fun s hs => k s (List.mem_cons_of_mem _ hs))
  | .dfl v d :: r, k => .cons (k _ (List.mem_cons_self ..) v d rfl G) (fun _ e => (nomatch e)) (VsOk.pick h h2 r fun s hs => k s (List.mem_cons_of_mem _ hs))
theorem VsOk.append {K : PySem.W.Frag} {G : Hp} {so : Option Addr} {H : Hp} : ∀ {vs qs : List V} {ds es : List DV}, VsOk K G so H vs ds → VsOk K G so H qs es → VsOk K G so H (vs ++ qs) (ds ++ es)
  | _, _, _, _, .nil, s => s
  | _, _, _, _, .cons h n t, s => .cons h n (VsOk.append t s)

/-! ### calls -/
def dCall (sp : SpD) (n m : Nat) (sel : List Sel) (ta tk : TDA) : TD := fun sl Q E => ta sl (fun xs s1 => tk s1 (fun ys s2 => xs.length = n ∧ ys.length = m ∧ sp (sel.map (pickD xs ys)) (fun v => Q v s2) fun cls fs => E cls fs s2) E) E
def DK (X : Cx) (W : WX) (kws : List Keyword) (t : TDA) : Prop := PK X kws (upA X.K W t)
section
variable {X : Cx} {W : WX} {k n : Nat} {f : Addr} {fd : FuncData} {ps ks : List Str} {sp : SpD} {sel : List Sel} {x nm : Str} {p pos kpos : Pos} {e : Expr} {es : List Expr} {kws : List Keyword} {ta tk tk' : TDA} {te : TD}
theorem pk_imp {t t' : TA} (h : PK X kws t) (g : ∀ σ H R, t' σ H R → t σ H R) : PK X kws t' := ⟨fun pos pins s σ H Q I q => h.run pos pins s σ H Q I (g _ _ _ q)⟩
theorem dk_nil : DK X W [] dNil := pk_imp pk_nil fun σ H R ⟨G, so, sl, Q, E, rep, q, hq, _⟩ => hq [] H G [] sl (.refl rep) .nil q
theorem dk_cons (ha : DE X W e te) (hr : DK X W kws tk) : DK X W (⟨nm, e, kpos⟩ :: kws) (dCons te tk) := by
  refine pk_imp (pk_cons ha hr) fun σ H R ⟨G, so, sl, Q, E, rep, q, hq, hx⟩ => ?_
  refine ⟨G, so, sl, _, E, rep, q, fun x H1 G1 dx s1 p1 h1 => ?_, hx⟩
  obtain ⟨G1', p1'⟩ := p1.pub
  refine ⟨G1', so, s1, _, E, p1'.rep, h1, fun vs H2 G2 ds s2 p2 w h2 => ?_, hx.step p1'.toPost⟩
  exact hq (x :: vs) H2 G2 (pubV dx :: ds) s2 (p1'.toPost.trans p2) (.cons (p1'.over p2) (pubV_not dx) w) h2
/-- the callee runs -/
theorem run_fnG {pins : List (Addr × Obj)} {σ : L2.St} {H G : Hp} {so : Option Addr} {sl : DSt} {s : Shared} {Q : VK} {us ws : List Value} {vs qs : List V} {ds es : List DV} {Q' : DV → DSt → Prop} {E : XP} (F : FnG X.prog X.w X.K X.mg X.base k f fd ps sp) (hr : Room k X.A) (hg : X.A.guards = some []) (tk : Takes X W) (hb : Bd X.K fd ps n ks sel)
    (I : Inv X pins σ H s) (rep : Rep X.K G so σ H sl) (r : Vals vs us) (r2 : Vals qs ws) (w : VsOk X.K G so H vs ds) (w2 : VsOk X.K G so H qs es) (l1 : ds.length = n) (l2 : es.length = ks.length)
    (q : sp (sel.map (pickD ds es)) (fun v => Q' v sl) fun cls fs => E cls fs sl) (hq : ∀ v H' G' dv sl', PostE X.K G so σ H sl v H' G' dv sl' → Q' dv sl' → Q v H') (hx : XOk X.K W G so σ H sl E) :
    wpAny (model X.prog X.w) X.A (call (.ref f) us (ks.zip ws)) (EP X pins σ Q) X.xe s := by
  obtain ⟨zs, bt, rz⟩ := hb.to s us ws vs qs I.kIn (by rw [← r.length, w.length, l1]) (by rw [← r2.length, w2.length, l2]) r r2
  have pk := w.pick w2 sel hb.dok
  refine wpAny_call (codeAny_mono (F.run X.A X.stack s H ⟨us, ks.zip ws⟩ zs (sel.map (pickV vs qs)) Q (fun cls d H' => W cls d σ H') hr hg I.env0 bt rz ⟨G, so, _, _, _, rep.h, pk, q, fun v H' G' dv pv z => hq v H' G' dv sl (pv.slots rep) z, fun cls d H' G' fs ph z1 z2 => ?_⟩) fun r s' hz => ?_)
  · have pn : PostV X.K G so H .non H' G' (.d .non) := ⟨ph.ex, ph.hrep, ph.keep, ph.frm, .non, fun _ _ e => (nomatch e), fun _ e => (nomatch e)⟩
    exact hx cls d H' G' fs sl (pn.slots rep).toPost z1 z2
  · cases r with
    | error e => exact tk e s' (XE.of_call I (fun _ _ _ z => z) hz)
    | ok fl =>
      cases fl with
      | ret u => exact I.after hz
      | next => exact False.elim hz
      | brk => exact False.elim hz
      | cont => exact False.elim hz
theorem de_call (F : FnG X.prog X.w X.K X.mg X.base k f fd ps sp) (hr : Room k X.A) (hgd : X.A.guards = some []) (tk : Takes X W) (hb : Bd X.K fd ps n [] sel) (hg : Gl X x) (hm : X.mg x = some (.ref f)) (hk : PySem.W.keepIn X.K (.ref f) = true)
    (ha : DA X W (e :: es) ta) (hdb : (x == ("__debug__" : Str)) = false := by decide) (he : starEach (e :: es) X.env = (false, eval e X.env) :: starEach es X.env := by rfl) (hpl : (backTo pos (starEach es X.env)).any (·.1) = false := by rfl) :
    DE X W (.Call (.Name x p) (e :: es) [] pos) (dCall sp n 0 sel ta dNil) := by
  refine ⟨fun pins s σ H Q I ⟨G, so, sl, Q', E, rep, q, hq, hx⟩ => wpAny_Call_Name_kw (ld_glob I hg hm ?_ hdb)⟩
  refine PySem.W.callWith_K (h₀ := X.base) I.ok.mod.kin hk (thn (ha.run pos pins s σ H (fun vs H1 => ∃ G1 ds s1, Post X.K G so σ H sl H1 G1 s1 ∧ VsOk X.K G1 so H1 vs ds ∧ ds.length = n ∧ sp (sel.map (pickD ds [])) (fun v => Q' v s1) fun cls fs => E cls fs s1) I
    ⟨G, so, sl, _, E, rep, q, fun vs H1 G1 ds s1 p1 w z => ⟨G1, ds, s1, p1, w, z.1, z.2.2⟩, hx⟩) fun us s1 ⟨vs, H1, I1, r, G1, ds, sl1, p1, w, l1, z⟩ => ⟨I1.kIn, ?_⟩) he hpl
  exact run_fnG (ws := []) (qs := []) (es := []) F hr hgd tk hb I1 p1.rep r .nil w .nil l1 rfl z (fun v H' G' dv sl' pe z' => hq v H' G' dv sl' (p1.thenE pe) z') (hx.step p1)
theorem de_callK (F : FnG X.prog X.w X.K X.mg X.base k f fd ps sp) (hr : Room k X.A) (hgd : X.A.guards = some []) (tk : Takes X W) (hb : Bd X.K fd ps n ks sel) (hg : Gl X x) (hm : X.mg x = some (.ref f)) (hk : PySem.W.keepIn X.K (.ref f) = true)
    (ha : DA X W (e :: es) ta) (hkw : DK X W kws tk') (hall : (backToKw pos (keywordEach kws X.env)).all (·.1.isSome) = true := by rfl) (hks : (backToKw pos (keywordEach kws X.env)).filterMap (·.1) = ks := by rfl) (hdb : (x == ("__debug__" : Str)) = false := by decide)
    (he : starEach (e :: es) X.env = (false, eval e X.env) :: starEach es X.env := by rfl) (hpl : ((backTo pos (starEach (e :: es) X.env)).any (·.1) || (backToKw pos (keywordEach kws X.env)).any (·.1.isNone)) = false := by rfl) :
    DE X W (.Call (.Name x p) (e :: es) kws pos) (dCall sp n ks.length sel ta tk') := by
  refine ⟨fun pins s σ H Q I ⟨G, so, sl, Q', E, rep, q, hq, hx⟩ => wpAny_Call_Name_kw (ld_glob I hg hm ?_ hdb)⟩
  refine PySem.W.callWith_KW (h₀ := X.base) I.ok.mod.kin hk hall (thn (ha.run pos pins s σ H (fun vs H1 => ∃ G1 ds s1, Post X.K G so σ H sl H1 G1 s1 ∧ VsOk X.K G1 so H1 vs ds ∧ tk' s1 (fun ys s2 => ds.length = n ∧ ys.length = ks.length ∧ sp (sel.map (pickD ds ys)) (fun v => Q' v s2) fun cls fs => E cls fs s2) E) I
    ⟨G, so, sl, _, E, rep, q, fun vs H1 G1 ds s1 p1 w z => ⟨G1, ds, s1, p1, w, z⟩, hx⟩) fun us s1 ⟨vs, H1, I1, r, G1, ds, sl1, p1, w, z⟩ => ?_) hpl he
  refine thn (hkw.run pos pins s1 σ H1 (fun qs H2 => ∃ G2 es s2, Post X.K G1 so σ H1 sl1 H2 G2 s2 ∧ VsOk X.K G2 so H2 qs es ∧ ds.length = n ∧ es.length = ks.length ∧ sp (sel.map (pickD ds es)) (fun v => Q' v s2) fun cls fs => E cls fs s2) I1
    ⟨G1, so, sl1, _, E, p1.rep, z, fun qs H2 G2 es s2 p2 w2 z => ⟨G2, es, s2, p2, w2, z⟩, hx.step p1⟩) fun ws s2 ⟨qs, H2, I2, r2, G2, es, sl2, p2, w2, l1, l2, z⟩ => ⟨I2.kIn, ?_⟩
  rw [hks]
  exact run_fnG F hr hgd tk hb I2 p2.rep r r2 (w.keep p2.ex p2.keep) w2 l1 l2 z (fun v H' G' dv sl' pe z' => hq v H' G' dv sl' ((p1.trans p2).thenE pe) z') (hx.step (p1.trans p2))
theorem de_callK0 (F : FnG X.prog X.w X.K X.mg X.base k f fd ps sp) (hr : Room k X.A) (hgd : X.A.guards = some []) (tk : Takes X W) (hb : Bd X.K fd ps 0 ks sel) (hg : Gl X x) (hm : X.mg x = some (.ref f)) (hk : PySem.W.keepIn X.K (.ref f) = true)
    (hkw : DK X W kws tk') (hall : (backToKw pos (keywordEach kws X.env)).all (·.1.isSome) = true := by rfl) (hks : (backToKw pos (keywordEach kws X.env)).filterMap (·.1) = ks := by rfl) (hdb : (x == ("__debug__" : Str)) = false := by decide)
    (hpl : ((backTo pos (starEach [] X.env)).any (·.1) || (backToKw pos (keywordEach kws X.env)).any (·.1.isNone)) = false := by rfl) :
    DE X W (.Call (.Name x p) [] kws pos) (dCall sp 0 ks.length sel dNil tk') := by
  refine ⟨fun pins s σ H Q I ⟨G, so, sl, Q', E, rep, q, hq, hx⟩ => wpAny_Call_Name_kw (ld_glob I hg hm ?_ hdb)⟩
  refine PySem.W.callWith_KW0 (h₀ := X.base) I.ok.mod.kin hk hall ?_ hpl
  refine thn (hkw.run pos pins s σ H (fun qs H2 => ∃ G2 es s2, Post X.K G so σ H sl H2 G2 s2 ∧ VsOk X.K G2 so H2 qs es ∧ es.length = ks.length ∧ sp (sel.map (pickD [] es)) (fun v => Q' v s2) fun cls fs => E cls fs s2) I
    ⟨G, so, sl, _, E, rep, q, fun qs H2 G2 es s2 p2 w2 z => ⟨G2, es, s2, p2, w2, z.2.1, z.2.2⟩, hx⟩) fun ws s2 ⟨qs, H2, I2, r2, G2, es, sl2, p2, w2, l2, z⟩ => ⟨I2.kIn, ?_⟩
  rw [hks]
  exact run_fnG (us := []) (vs := []) (ds := []) F hr hgd tk hb I2 p2.rep .nil r2 .nil w2 rfl l2 z (fun v H' G' dv sl' pe z' => hq v H' G' dv sl' (p2.thenE pe) z') (hx.step p2)
theorem de_call0 (F : FnG X.prog X.w X.K X.mg X.base k f fd ps sp) (hr : Room k X.A) (hgd : X.A.guards = some []) (tk : Takes X W) (hb : Bd X.K fd ps 0 [] sel) (hg : Gl X x) (hm : X.mg x = some (.ref f)) (hk : PySem.W.keepIn X.K (.ref f) = true)
    (hdb : (x == ("__debug__" : Str)) = false := by decide) : DE X W (.Call (.Name x p) [] [] pos) (dCall sp 0 0 sel dNil dNil) := by
  refine ⟨fun pins s σ H Q I ⟨G, so, sl, Q', E, rep, q, hq, hx⟩ => wpAny_Call_Name_kw (ld_glob I hg hm ?_ hdb)⟩
  exact PySem.W.callWith_K0 I.kIn hk (run_fnG (us := []) (vs := []) (ds := []) (ws := []) (qs := []) (es := []) F hr hgd tk hb I rep .nil .nil .nil .nil rfl rfl q.2.2 hq hx)
end
end DL

set_option Elab.async false
set_option linter.all false
set_option maxRecDepth 100000
set_option autoImplicit false
set_option maxHeartbeats 2000000
namespace DL
open PySem PySem.Spec PyProof.Rows L2

/-! ### built-ins called by their names -/
section
variable {X : Cx} {W : WX} {x : Str} {p pos : Pos} {e : Expr} {es : List Expr} {ta : TDA} {id T : String} {r : List V → Hp → VK → Prop} {rd : List DV → (DV → Prop) → Prop}
theorem de_callB (hc : CallR X (.builtin id) r) (hr : CallSem X.K r rd) (hg : Gl X x) (hm : X.mg x = none) (hv : bootBuiltins x = some (.builtin id)) (ha : DA X W (e :: es) ta) (hn : x ≠ "__name__" := by decide) (hdb : (x == ("__debug__" : Str)) = false := by decide)
    (he : starEach (e :: es) X.env = (false, eval e X.env) :: starEach es X.env := by rfl) (hpl : (backTo pos (starEach es X.env)).any (·.1) = false := by rfl) : DE X W (.Call (.Name x p) (e :: es) [] pos) (dCB rd ta) := pe_imp (pe_callB hc hg hm hv ha hn hdb he hpl) fun _ _ _ h => up_cb hr h
theorem de_callT (hc : CallR X (.type T) r) (hr : CallSem X.K r rd) (hg : Gl X x) (hm : X.mg x = none) (hv : bootBuiltins x = some (.type T)) (ha : DA X W (e :: es) ta) (hn : x ≠ "__name__" := by decide) (hdb : (x == ("__debug__" : Str)) = false := by decide)
    (he : starEach (e :: es) X.env = (false, eval e X.env) :: starEach es X.env := by rfl) (hpl : (backTo pos (starEach es X.env)).any (·.1) = false := by rfl) : DE X W (.Call (.Name x p) (e :: es) [] pos) (dCB rd ta) := pe_imp (pe_callTy hc hg hm hv ha hn hdb he hpl) fun _ _ _ h => up_cb hr h
/-- a module's name for a built-in function -/
theorem de_callF (hc : CallR X (.builtin id) r) (hr : CallSem X.K r rd) (hg : Gl X x) (hm : X.mg x = some (.builtin id)) (ha : DA X W (e :: es) ta) (hdb : (x == ("__debug__" : Str)) = false := by decide)
    (he : starEach (e :: es) X.env = (false, eval e X.env) :: starEach es X.env := by rfl) (hpl : (backTo pos (starEach es X.env)).any (·.1) = false := by rfl) : DE X W (.Call (.Name x p) (e :: es) [] pos) (dCB rd ta) := pe_imp (pe_callBfun hc hg hm ha hdb he hpl) fun _ _ _ h => up_cb hr h
/-- a built-in class as a value; a constant of the module's -/
theorem de_ty {T : String} (hg : Gl X x) (hm : X.mg x = none) (hv : bootBuiltins x = some (.type T)) (hn : x ≠ "__name__" := by decide) (hdb : (x == ("__debug__" : Str)) = false := by decide) : DE X W (.Name x pos) (dC (.raw (.ty T))) := de_c (pe_bltn (v := .ty T) hg hm hv rfl hn hdb) fun _ => .raw _
theorem de_glob {v : V} {u : Value} {d : D} (hg : Gl X x) (hm : X.mg x = some u) (r : RelV v u) (hd : ∀ G, DOk X.K G v d) (hdb : (x == ("__debug__" : Str)) = false := by decide) : DE X W (.Name x pos) (dC d) := de_c (pe_glob hg hm r hdb) hd
end

/-! ### len, int, str, abs, list, tuple, all, any -/
@[irreducible] def lenR : List DV → (DV → Prop) → Prop
  | [.d (.str z)], Q => z.length ≤ szl ∧ Q (.d (.int z.length))
  | [.d (.tup ds)], Q => Q (.d (.int ds.length))
  | [v], Q => match v.items with
    | some ds => Q (.d (.int ds.length))
    | none => False
  | _, _ => False
@[irreducible] def intC : List DV → (DV → Prop) → Prop
  | [.d (.int i)], Q => Q (.d (.int i))
  | _, _ => False
@[irreducible] def absR : List DV → (DV → Prop) → Prop
  | [.d (.int i)], Q => Q (.d (.int (if i < 0 then -i else i)))
  | _, _ => False
@[irreducible] def strR : List DV → (DV → Prop) → Prop
  | [.d (.int i)], Q => i.natAbs.log2 < 1920 ∧ Q (.d (.str (toString i)))
  | _, _ => False
@[irreducible] def listR : List DV → (DV → Prop) → Prop
  | [.d (.tup ds)], Q => Q (.own (.lst ds))
  | [v], Q => match v.items with
    | some ds => Q (.own (.lst ds))
    | none => False
  | _, _ => False
@[irreducible] def tupleR : List DV → (DV → Prop) → Prop
  | [.d (.tup ds)], Q => Q (.d (.tup ds))
  | [v], Q => match v.items with
    | some ds => Q (.d (.tup ds))
    | none => False
  | _, _ => False
def bools : List D → Option (List Bool)
  | [] => some []
  | .bl b :: r => (bools r).map (b :: ·)
  | _ => none
@[irreducible] def allR : List DV → (DV → Prop) → Prop
  | [v], Q => match v.items with
    | some ds => match bools ds with
      | some bs => Q (.d (.bl (bs.all id)))
      | none => False
    | none => False
  | _, _ => False
@[irreducible] def gcdR : List DV → (DV → Prop) → Prop
  | [.d (.int i), .d (.int j)], Q => Q (.d (.int (Int.gcd i j)))
  | _, _ => False
section
variable {K : PySem.W.Frag} {X : Cx}
def rLen1 (K : PySem.W.Frag) : List V → Hp → VK → Prop := fun xs H Q => ∃ x n, xs = [x] ∧ LenV K x H n ∧ Q (.int n) H
theorem sem_len : CallSem K (rLen1 K) lenR := by
  intro G so H xs dxs Q R h w q k
  unfold lenR at q
  split at q
  · obtain ⟨v, rfl, w1, _⟩ := w.v1
    cases w1
    exact ⟨_, _, rfl, ⟨by rw [← szl_eq]; exact q.1, rfl⟩, k _ H G _ (.dat h (.int _)) q.2⟩
  · obtain ⟨v, rfl, w1, _⟩ := w.v1
    obtain ⟨a, vs, rfl, g1, a1⟩ := VOk.tup h w1
    exact ⟨_, _, rfl, .inr ⟨vs, g1, rfl⟩, k _ H G _ (.dat h (by rw [a1.length]; exact .int _)) q⟩
  · obtain ⟨v, rfl, w1, _⟩ := w.v1
    split at q
    · rename_i e
      obtain ⟨a, vs, rfl, g1, a1⟩ := VOk.list h w1 e
      exact ⟨_, _, rfl, .inl ⟨vs, SqL.of g1, rfl⟩, k _ H G _ (.dat h (by rw [a1.length]; exact .int _)) q⟩
    · exact q.elim
  · exact q.elim
theorem sem_int : CallSem K (fun xs H Q => (∃ i, xs = [.int i] ∧ Q (.int i) H) ∨ ∃ k, xs = [.bl k] ∧ Q (.int (if k then 1 else 0)) H) intC := by
  intro G so H xs dxs Q R h w q k
  unfold intC at q
  split at q
  · obtain ⟨v, rfl, w1, _⟩ := w.v1
    cases w1
    exact .inl ⟨_, rfl, k _ H G _ (.dat h (.int _)) q⟩
  · exact q.elim
theorem sem_abs : CallSem K (fun xs H Q => ∃ i, xs = [.int i] ∧ Q (.int (if i < 0 then -i else i)) H) absR := by
  intro G so H xs dxs Q R h w q k
  unfold absR at q
  split at q
  · obtain ⟨v, rfl, w1, _⟩ := w.v1
    cases w1
    exact ⟨_, rfl, k _ H G _ (.dat h (.int _)) q⟩
  · exact q.elim
theorem sem_str : CallSem K (fun xs H Q => ∃ i, xs = [.int i] ∧ i.natAbs.log2 < 1920 ∧ Q (.str (toString i)) H) strR := by
  intro G so H xs dxs Q R h w q k
  unfold strR at q
  split at q
  · obtain ⟨v, rfl, w1, _⟩ := w.v1
    cases w1
    exact ⟨_, rfl, q.1, k _ H G _ (.dat h (.str _)) q.2⟩
  · exact q.elim
theorem sem_list : CallSem K (fun xs H Q => ∃ p ys, xs = [.ref p] ∧ (SqL K H p ys ∨ SqT K H p ys) ∧ ∀ l, H l = none → Q (.ref l) (upd H l (.lst ys))) listR := by
  intro G so H xs dxs Q R h w q k
  unfold listR at q
  split at q
  · obtain ⟨v, rfl, w1, _⟩ := w.v1
    obtain ⟨a, vs, rfl, g1, a1⟩ := VOk.tup h w1
    exact ⟨a, vs, rfl, .inr g1, fun l n => k _ _ G _ (.list h n a1) q⟩
  · obtain ⟨v, rfl, w1, _⟩ := w.v1
    split at q
    · rename_i e
      obtain ⟨a, vs, rfl, g1, a1⟩ := VOk.list h w1 e
      exact ⟨a, vs, rfl, .inl (SqL.of g1), fun l n => k _ _ G _ (.list h n a1) q⟩
    · exact q.elim
  · exact q.elim
theorem sem_tuple : CallSem K (fun xs H Q => ∃ p ys, xs = [.ref p] ∧ ((SqL K H p ys ∧ ∀ l, H l = none → Q (.ref l) (upd H l (.tup ys))) ∨ (SqT K H p ys ∧ Q (.ref p) H))) tupleR := by
  intro G so H xs dxs Q R h w q k
  unfold tupleR at q
  split at q
  · obtain ⟨v, rfl, w1, _⟩ := w.v1
    obtain ⟨a, vs, rfl, g1, a1⟩ := VOk.tup h w1
    exact ⟨a, vs, rfl, .inr ⟨g1, k _ _ G _ (.dat h w1) q⟩⟩
  · obtain ⟨v, rfl, w1, _⟩ := w.v1
    split at q
    · rename_i e
      obtain ⟨a, vs, rfl, g1, a1⟩ := VOk.list h w1 e
      exact ⟨a, vs, rfl, .inl ⟨SqL.of g1, fun l n => k _ _ _ _ (.tuple h n a1) q⟩⟩
    · exact q.elim
  · exact q.elim
theorem bools_ok {G : Hp} : ∀ {vs : List V} {ds : List D} {bs : List Bool}, DAll K G vs ds → bools ds = some bs → vs = bs.map V.bl
  | _, _, _, .nil, e => by cases e; rfl
  | _, _, _, .cons (d := .bl b) h t, e => by
    unfold bools at e
    rename_i ds0
    cases z : bools ds0 with
    | none => rw [z] at e; cases e
    | some ys => rw [z] at e; cases e; cases h; rw [bools_ok t z]; rfl
  | _, _, _, .cons (d := .non) h t, e => by cases e
  | _, _, _, .cons (d := .int _) h t, e => by cases e
  | _, _, _, .cons (d := .str _) h t, e => by cases e
  | _, _, _, .cons (d := .lst _) h t, e => by cases e
  | _, _, _, .cons (d := .tup _) h t, e => by cases e
  | _, _, _, .cons (d := .ins _ _) h t, e => by cases e
  | _, _, _, .cons (d := .raw _) h t, e => by cases e
theorem sem_all : CallSem K (rAll K) allR := by
  intro G so H xs dxs Q R h w q k
  unfold allR at q
  split at q
  · obtain ⟨v, rfl, w1, _⟩ := w.v1
    split at q
    · rename_i e
      obtain ⟨a, vs, rfl, g1, a1⟩ := VOk.list h w1 e
      split at q
      · rename_i bs eb
        exact ⟨a, bs, rfl, by rw [← bools_ok a1 eb]; exact SqL.of g1, k _ H G _ (.dat h (.bl _)) q⟩
      · exact q.elim
    · exact q.elim
  · exact q.elim
theorem sem_gcd : CallSem K rGcd gcdR := by
  intro G so H xs dxs Q R h w q k
  unfold gcdR at q
  split at q
  · obtain ⟨v, v', rfl, w1, w2, _⟩ := w.v2
    cases w1; cases w2
    exact ⟨_, _, rfl, k _ H G _ (.dat h (.int _)) q⟩
  · exact q.elim

/-! ### isinstance -/
/-- the name of a tree's built-in class -/
def tyD : D → Option String
  | .non => some "NoneType"
  | .bl _ => some "bool"
  | .int _ => some "int"
  | .str _ => some "str"
  | .lst _ => some "list"
  | .tup _ => some "tuple"
  | _ => none
@[irreducible] def isiR : List DV → (DV → Prop) → Prop
  | [v, .d (.raw (.ty T))], Q => match v.dat with
    | some d => match tyD d with
      | some t => match kitB t T with
        | some b => Q (.d (.bl b))
        | none => False
      | none => False
    | none => False
  | _, _ => False
theorem ty_ok {G H : Hp} {so : Option Addr} {v : V} {dv : DV} {d : D} {t : String} (h : HRep K G so H) (w : VOk K G so H v dv) (e : dv.dat = some d) (q : tyD d = some t) : TyX K H v (.type t) := by
  have own : ∀ {a : Addr} {o : OO}, OwnOk K G H a o → tyD (pubO o) = some t → TyX K H (.ref a) (.type t) := fun {a o} k q => by
    cases o with
    | lst ds => obtain ⟨vs, e1, _⟩ := k; cases q; exact .base (.lst e1)
    | ins x C fs => cases q
  cases dv with
  | src => cases e
  | own o => cases e; obtain ⟨a, rfl, _, _, k⟩ := w; exact own k q
  | bor o => cases e; obtain ⟨a, rfl, _, k⟩ := w; exact own k q
  | see o => cases e; obtain ⟨a, rfl, _, k⟩ := w; exact own k q
  | d x =>
    cases e
    cases w with
    | non => cases q; exact .base .non
    | bl b => cases q; exact .base (.bl b)
    | int i => cases q; exact .base (.int i)
    | str z => cases q; exact .base (.str z)
    | lst g _ => cases q; exact .base (.lst (h.ex _ _ g))
    | tup g _ =>
      cases q
      rcases g with (g | ⟨o, g⟩) | ⟨o, its, n, g, c, _⟩
      · exact .base (.tup (h.ex _ _ g))
      · exact .fTuple (h.ex _ _ g)
      · exact .kTuple g c
    | ins _ _ _ => cases q
    | raw _ => cases q
theorem sem_isi : CallSem K (rIsi K) isiR := by
  intro G so H xs dxs Q R h w q k
  unfold isiR at q
  split at q
  · obtain ⟨v, v', rfl, w1, w2, _⟩ := w.v2
    cases w2
    split at q
    · rename_i d e
      split at q
      · rename_i t et
        split at q
        · rename_i b eb
          exact ⟨_, _, _, _, b, rfl, .ty _, ty_ok h w1 e et, kit_ty eb, k _ H G _ (.dat h (.bl _)) q⟩
        · exact q.elim
      · exact q.elim
    · exact q.elim
  · exact q.elim

/-! ### in -/
def flatD : D → Bool
  | .non => true
  | .bl _ => true
  | .int _ => true
  | .str _ => true
  | _ => false
def eqF : D → D → Bool
  | .non, .non => true
  | .bl a, .bl b => a == b
  | .bl a, .int b => (if a then 1 else 0) == b
  | .int a, .bl b => a == (if b then 1 else 0)
  | .int a, .int b => a == b
  | .str a, .str b => a == b
  | _, _ => false
def inF (x : D) (ds : List D) : Bool := ds.any fun y => eqF y x
@[irreducible] def inSeqR (neg : Bool) : DV → DV → (DV → Prop) → Prop
  | .d x, .d (.tup ds), Q => flatD x = true ∧ ds.all flatD = true ∧ Q (.d (.bl (if neg then !inF x ds else inF x ds)))
  | .d x, y, Q => match y.items with
    | some ds => flatD x = true ∧ ds.all flatD = true ∧ Q (.d (.bl (if neg then !inF x ds else inF x ds)))
    | none => False
  | _, _, _ => False
@[irreducible] def inR (neg : Bool) : DV → DV → (DV → Prop) → Prop
  | .d (.str w), .d (.str z), Q => match w.cps.toList with
    | [c] => Q (.d (.bl (if neg then !decide (c ∈ z.cps.toList) else decide (c ∈ z.cps.toList))))
    | _ => False
  | x, y, Q => inSeqR neg x y Q
theorem flat_ok {G : Hp} {v : V} {d : D} (w : DOk K G v d) (f : flatD d = true) : flatV v = true := by
  cases w <;> first | rfl | (exact absurd f (by simp [flatD]))
theorem eqF_ok {G : Hp} {v u : V} {d e : D} (w : DOk K G v d) (w2 : DOk K G u e) (f : flatD d = true) (f2 : flatD e = true) : eqV v u = eqF d e := by
  cases w <;> cases w2 <;> first | rfl | (exfalso; revert f f2; simp [flatD]; done)
theorem flat_all {G : Hp} : ∀ {vs : List V} {ds : List D}, DAll K G vs ds → ds.all flatD = true → vs.all flatV = true
  | _, _, .nil, _ => rfl
  | _, _, .cons h t, f => by
    rw [List.all_cons, Bool.and_eq_true] at f
    rw [List.all_cons, flat_ok h f.1, flat_all t f.2]; rfl
theorem in_ok {G : Hp} {v : V} {x : D} (w : DOk K G v x) (f : flatD x = true) : ∀ {vs : List V} {ds : List D}, DAll K G vs ds → ds.all flatD = true → inV v vs = inF x ds
  | _, _, .nil, _ => rfl
  | _, _, .cons h t, g => by
    rw [List.all_cons, Bool.and_eq_true] at g
    have ih := in_ok w f t g.2
    unfold inV inF at ih ⊢
    rw [List.any_cons, List.any_cons, eqF_ok h w g.1 f, ih]
theorem sem_inSeq (neg : Bool) : OpSem K (rIn K neg) (inSeqR neg) := by
  intro G so H x y dx dy Q R h wx wy q k
  unfold inSeqR at q
  split at q
  · obtain ⟨a, vs, rfl, g1, a1⟩ := VOk.tup h wy
    exact ⟨a, vs, rfl, .inr g1, flat_ok wx q.1, flat_all a1 q.2.1, by rw [in_ok wx q.1 a1 q.2.1]; exact k _ H G _ (.dat h (.bl _)) q.2.2⟩
  · split at q
    · rename_i e
      obtain ⟨a, vs, rfl, g1, a1⟩ := VOk.list h wy e
      exact ⟨a, vs, rfl, .inl (SqL.of g1), flat_ok wx q.1, flat_all a1 q.2.1, by rw [in_ok wx q.1 a1 q.2.1]; exact k _ H G _ (.dat h (.bl _)) q.2.2⟩
    · exact q.elim
  · exact q.elim
def rInAll (K : PySem.W.Frag) : R2 := fun x y H Q => (∃ (c : Nat) (z : Str), x = .str ⟨#[c]⟩ ∧ y = .str z ∧ Q (.bl (decide (c ∈ z.cps.toList))) H) ∨ rIn K false x y H Q
def rNotInAll (K : PySem.W.Frag) : R2 := fun x y H Q => (∃ (c : Nat) (z : Str), x = .str ⟨#[c]⟩ ∧ y = .str z ∧ Q (.bl (!decide (c ∈ z.cps.toList))) H) ∨ rIn K true x y H Q
theorem op_inAll : OpR X (compareOp .In) (rInAll X.K) := OpR.or op_in_sign op_in_seq
theorem op_notInAll : OpR X (compareOp .NotIn) (rNotInAll X.K) := OpR.or op_notIn_sign op_notIn_seq
theorem one_sign {w : Str} {c : Nat} (e : w.cps.toList = [c]) : w = ⟨#[c]⟩ := by
  obtain ⟨a⟩ := w
  have : a = #[c] := by
    apply Array.toList_inj.mp
    exact e
  rw [this]
theorem sem_in : OpSem K (rInAll K) (inR false) := by
  intro G so H x y dx dy Q R h wx wy q k
  unfold inR at q
  split at q
  · split at q
    · rename_i c e
      cases wx; cases wy
      exact .inl ⟨c, _, by rw [one_sign e], rfl, k _ H G _ (.dat h (.bl _)) q⟩
    · exact q.elim
  · exact .inr (sem_inSeq false G so H x y dx dy Q R h wx wy q k)
theorem sem_notIn : OpSem K (rNotInAll K) (inR true) := by
  intro G so H x y dx dy Q R h wx wy q k
  unfold inR at q
  split at q
  · split at q
    · rename_i c e
      cases wx; cases wy
      exact .inl ⟨c, _, by rw [one_sign e], rfl, k _ H G _ (.dat h (.bl _)) q⟩
    · exact q.elim
  · exact .inr (sem_inSeq true G so H x y dx dy Q R h wx wy q k)

/-! ### a[i] -/
@[irreducible] def ixR : DV → DV → (DV → Prop) → Prop
  | .d (.tup ds), .d (.int i), Q => match atI ds i with
    | some d => Q (.d d)
    | none => False
  | .d (.str z), .d (.int i), Q => z.length ≤ szl ∧ match atI z.cps.toList i with
    | some c => Q (.d (.str ⟨#[c]⟩))
    | none => False
  | v, .d (.int i), Q => match v.items with
    | some ds => match atI ds i with
      | some d => Q (.d d)
      | none => False
    | none => False
  | _, _, _ => False
theorem at_all {G : Hp} {vs : List V} {ds : List D} {i : Int} {d : D} (a : DAll K G vs ds) (e : atI ds i = some d) : ∃ v, atI vs i = some v ∧ DOk K G v d := by
  unfold atI at e ⊢
  rw [a.length]
  cases z : ixN ds.length i with
  | none => rw [z] at e; cases e
  | some j => rw [z] at e; exact a.get e
theorem sem_ix : OpSem K (rIx K) ixR := by
  intro G so H x y dx dy Q R h wx wy q k
  unfold ixR at q
  split at q
  · split at q
    · rename_i e
      obtain ⟨a, vs, rfl, g1, a1⟩ := VOk.tup h wx
      cases wy
      obtain ⟨v, e1, e2⟩ := at_all a1 e
      exact .inr (.inl ⟨a, vs, _, v, rfl, rfl, g1, e1, k _ H G _ (.dat h e2) q⟩)
    · exact q.elim
  · cases wx; cases wy
    obtain ⟨q1, q⟩ := q
    split at q
    · rename_i e
      exact .inr (.inr ⟨_, _, _, rfl, rfl, by rw [← szl_eq]; exact q1, e, k _ H G _ (.dat h (.str _)) q⟩)
    · exact q.elim
  · split at q
    · rename_i e
      split at q
      · rename_i e0
        obtain ⟨a, vs, rfl, g1, a1⟩ := VOk.list h wx e
        cases wy
        obtain ⟨v, e1, e2⟩ := at_all a1 e0
        exact .inl ⟨a, vs, _, v, rfl, rfl, SqL.of g1, e1, k _ H G _ (.dat h e2) q⟩
      · exact q.elim
    · exact q.elim
  · exact q.elim
end
end DL

set_option Elab.async false
set_option linter.all false
set_option maxRecDepth 100000
set_option autoImplicit false
set_option maxHeartbeats 2000000
namespace DL
open PySem PySem.Spec PyProof.Rows L2

/-! ### a[lo:hi] -/
abbrev TDO := DSt → (Option Int → DSt → Prop) → XP → Prop
def dNoPart : TDO := fun sl Q _ => Q none sl
def dPart (te : TD) : TDO := fun sl Q E => te sl (fun x s1 => match x with
  | .d (.int i) => Q (some i) s1
  | _ => False) E
def upO (K : PySem.W.Frag) (W : WX) (t : TDO) : TO := fun σ H R => ∃ G so sl Q E, Rep K G so σ H sl ∧ t sl Q E ∧ (∀ o H' G' sl', Post K G so σ H sl H' G' sl' → Q o sl' → R o H') ∧ XOk K W G so σ H sl E
def DO' (X : Cx) (W : WX) (e : Option Expr) (t : TDO) : Prop := PO X e (upO X.K W t)
def cut {α : Type} (xs : List α) (lo hi : Option Int) : List α := (xs.drop (HT.sIx xs.length 0 lo)).take (HT.sIx xs.length xs.length hi - HT.sIx xs.length 0 lo)
@[irreducible] def slR (v : DV) (lo hi : Option Int) (Q : DV → Prop) : Prop := match v with
  | .d (.tup ds) => Q (.d (.tup (cut ds lo hi)))
  | .d (.str z) => z.length ≤ szl ∧ Q (.d (.str (cutS z lo hi)))
  | v => match v.items with
    | some ds => Q (.own (.lst (cut ds lo hi)))
    | none => False
def dSl (te : TD) (tl th : TDO) : TD := fun sl Q E => te sl (fun x s1 => tl s1 (fun lo s2 => th s2 (fun hi s3 => slR x lo hi fun z => Q z s3) E) E) E
section
variable {X : Cx} {W : WX} {e : Expr} {te : TD} {tl th : TDO} {pos p2 : Pos} {lo hi : Option Expr} {K : PySem.W.Frag}
theorem po_imp {o : Option Expr} {t t' : TO} (h : PO X o t) (f : ∀ σ H R, t' σ H R → t σ H R) : PO X o t' := ⟨fun pins s σ H Q I q => h.run pins s σ H Q I (f _ _ _ q)⟩
theorem do_none : DO' X W none dNoPart := po_imp po_none fun σ H R ⟨G, so, sl, Q, E, rep, q, hq, hx⟩ => hq none H G sl (.refl rep) q
theorem do_some (h : DE X W e te) : DO' X W (some e) (dPart te) := po_imp (po_some h) fun σ H R ⟨G, so, sl, Q, E, rep, q, hq, hx⟩ => ⟨G, so, sl, _, E, rep, q, fun v H1 G1 dv s1 p q1 => by
    split at q1
    · have w := p.val
      cases w
      exact ⟨_, rfl, hq _ H1 G1 s1 p.toPost q1⟩
    · exact q1.elim, hx⟩
theorem cut_all {G : Hp} {vs : List V} {ds : List D} {lo hi : Option Int} (a : DAll K G vs ds) : DAll K G (cutV vs lo hi) (cut ds lo hi) := by
  unfold cutV cut
  rw [a.length]
  exact (a.drop _).take _
def rSlAll (K : PySem.W.Frag) : V → Option Int → Option Int → Hp → VK → Prop := fun x lo hi H Q => rSlA K x lo hi H Q ∨ (rSlS x lo hi H Q ∨ rSlL K x lo hi H Q)
theorem sl_all : SlR X (rSlAll X.K) := SlR.or sl_tupA (SlR.or sl_str sl_list)
theorem cut_whole {α : Type} {xs : List α} {lo hi : Option Int} (h : HT.sIx xs.length 0 lo = 0 ∧ HT.sIx xs.length xs.length hi = xs.length) : cut xs lo hi = xs := by
  unfold cut
  rw [h.1, h.2]
  simp
theorem sem_sl {G : Hp} {so : Option Addr} {H : Hp} {x : V} {dx : DV} {lo hi : Option Int} {Q : DV → Prop} {R : VK} (h : HRep K G so H) (w : VOk K G so H x dx) (q : slR dx lo hi Q) (k : ∀ v H' G' dv, PostV K G so H v H' G' dv → Q dv → R v H') : rSlAll K x lo hi H R := by
  unfold slR at q
  split at q
  · obtain ⟨a, vs, rfl, g1, a1⟩ := VOk.tup h w
    refine .inl ⟨a, vs, rfl, g1, fun z => ?_, fun _ p n => k _ _ _ _ (.tuple h n (cut_all a1)) q⟩
    rw [a1.length] at z
    rw [cut_whole z] at q
    exact k _ H G _ (.dat h w) q
  · cases w
    exact .inr (.inl ⟨_, rfl, by rw [← szl_eq]; exact q.1, k _ H G _ (.dat h (.str _)) q.2⟩)
  · split at q
    · rename_i e
      obtain ⟨a, vs, rfl, g1, a1⟩ := VOk.list h w e
      exact .inr (.inr ⟨a, vs, rfl, SqL.of g1, fun p n => k _ _ _ _ (.list h n (cut_all a1)) q⟩)
    · exact q.elim
theorem de_sl (he : DE X W e te) (hl : DO' X W lo tl) (hh : DO' X W hi th) : DE X W (.Subscript e (.Slice lo hi none p2) pos) (dSl te tl th) := pe_imp (pe_slice sl_all he hl hh) fun σ H R ⟨G, so, sl, Q, E, rep, q, hq, hx⟩ => by
  refine ⟨G, so, sl, _, E, rep, q, fun x H1 G1 dx s1 p1 q1 => ?_, hx⟩
  refine ⟨G1, so, s1, _, E, p1.rep, q1, fun o1 H2 G2 s2 p2 q2 => ?_, hx.step p1.toPost⟩
  refine ⟨G2, so, s2, _, E, p2.rep, q2, fun o2 H3 G3 s3 p3 q3 => ?_, hx.step (p1.toPost.trans p2)⟩
  have p23 := p2.trans p3
  exact sem_sl p3.rep.h (p1.over p23) q3 fun v H' G' dv pv hz => hq v H' G' dv s3 ((p1.toPost.trans p23).thenV pv) hz
end

/-! ### sep.join(texts) -/
def strsD : List D → Option (List Str)
  | [] => some []
  | .str s :: r => (strsD r).map (s :: ·)
  | _ => none
theorem strs_ok {K : PySem.W.Frag} {G : Hp} : ∀ {vs : List V} {ds : List D} {ss : List Str}, DAll K G vs ds → strsD ds = some ss → vs = ss.map V.str
  | _, _, _, .nil, e => by cases e; rfl
  | _, _, _, .cons (d := .str b) h t, e => by
    unfold strsD at e
    rename_i ds0
    cases z : strsD ds0 with
    | none => rw [z] at e; cases e
    | some ys => rw [z] at e; cases e; cases h; rw [strs_ok t z]; rfl
  | _, _, _, .cons (d := .non) h t, e => by cases e
  | _, _, _, .cons (d := .int _) h t, e => by cases e
  | _, _, _, .cons (d := .bl _) h t, e => by cases e
  | _, _, _, .cons (d := .lst _) h t, e => by cases e
  | _, _, _, .cons (d := .tup _) h t, e => by cases e
  | _, _, _, .cons (d := .ins _ _) h t, e => by cases e
  | _, _, _, .cons (d := .raw _) h t, e => by cases e
def seqD : DV → Option (List D)
  | .d (.tup ds) => some ds
  | v => v.items
@[irreducible] def joinR : DV → DV → (DV → Prop) → Prop
  | .d (.str a), y, Q => match seqD y with
    | some ds => match strsD ds with
      | some ss => (ss.map (·.length)).sum + ss.length * a.length ≤ 16777216 ∧ Q (.d (.str (Txt.join a ss)))
      | none => False
    | none => False
  | _, _, _ => False
section
variable {X : Cx} {W : WX} {o e : Expr} {to te : TD} {apos pos : Pos}
theorem de_join (ho : DE X W o to) (he : DE X W e te) (hs : starEach [e] X.env = [(false, eval e X.env)] := by rfl) (hbase : attributeBase o "join" X.env (eval o X.env) = eval o X.env := by rfl) (hline : (apos.endLine == pos.line) = true := by rfl) :
    DE X W (.Call (.Attribute o "join" apos) [e] [] pos) (fun sl Q E => to sl (fun x s1 => (∃ a, x = .d (.str a)) ∧ te s1 (fun y s2 => joinR x y fun z => Q z s2) E) E) := pe_imp (pe_join ho he hs hbase hline) fun σ H R ⟨G, so, sl, Q, E, rep, q, hq, hx⟩ => by
  refine ⟨G, so, sl, _, E, rep, q, fun x H1 G1 dx s1 p1 ⟨⟨a, ea⟩, h1⟩ => ⟨?_, ?_⟩, hx⟩
  · have w := p1.val
    rw [ea] at w
    cases w; exact ⟨a, rfl⟩
  · refine ⟨G1, so, s1, _, E, p1.rep, h1, fun y H2 G2 dy s2 p2 h2 => ?_, hx.step p1.toPost⟩
    have w1 := p1.over p2.toPost
    have w2 := p2.val
    have fin := fun (z : Str) (qz : Q (.d (.str z)) s2) => hq _ H2 G2 _ s2 ((p1.toPost.trans p2.toPost).thenV (.dat p2.rep.h (.str z))) qz
    rw [ea] at w1 h2
    cases w1
    unfold joinR at h2
    change (match seqD dy with | some ds => (match strsD ds with | some ss => (ss.map (·.length)).sum + ss.length * a.length ≤ 16777216 ∧ Q (.d (.str (Txt.join a ss))) s2 | none => False) | none => False) at h2
    split at h2
    · rename_i ds ed
      split at h2
      · rename_i ss es
        unfold seqD at ed
        split at ed
        · cases ed
          obtain ⟨b, vs, rfl, g1, a1⟩ := VOk.tup p2.rep.h w2
          exact ⟨_, b, ss, rfl, rfl, .inr (by rw [← strs_ok a1 es]; exact g1), h2.1, fin _ h2.2⟩
        · obtain ⟨b, vs, rfl, g1, a1⟩ := VOk.list p2.rep.h w2 ed
          exact ⟨_, b, ss, rfl, rfl, .inl (by rw [← strs_ok a1 es]; exact SqL.of g1), h2.1, fin _ h2.2⟩
      · exact h2.elim
    · exact h2.elim
end

/-! ### repr of a plain tree -/
def rReprD (K : PySem.W.Frag) : List V → Hp → VK → Prop := fun xs H Q => ∃ (a : Addr) (d : PyData), xs = [.ref a] ∧ Dp K H (.ref a) d ∧ SeqAt.shaped d = true ∧ d.showable = true ∧ d.shown.length ≤ sizeLine ∧ Q (.str d.shown) H
theorem call_reprD {X : Cx} (hg : X.A.guards = some []) (hu : X.A.units + 65 < cLine) : CallR X (.builtin "repr") (rReprD X.K) := by
  intro pins s σ H xs us Q I r h
  obtain ⟨a, d, rfl, hd, hs, hw, hz, q⟩ := h
  obtain ⟨u, rfl, ru⟩ := vals1 r
  cases ru
  obtain ⟨as, rd⟩ := Dp.reads I d _ _ hd (show RelV (.ref a) (.ref a) from rfl)
  have dd := SeqAt.depth_of_shaped hs
  exact repr_of_reads' rd hw (PyData.noDict_hsm (PyData.hasDict_of_canLay _ (SeqAt.canLay_of_shaped hs))) hg (by omega) (fun _ _ e => e) (fun h' u tk hk => ⟨.str d.shown, H, I.kept hk, ⟨_, rfl⟩, q⟩) hz
@[irreducible] def reprR : List DV → (DV → Prop) → Prop
  | [v], Q => match v.dat with
    | some (.lst ds) => match (D.lst ds).py with
      | some p => SeqAt.shaped p = true ∧ p.showable = true ∧ p.shown.length ≤ szl ∧ Q (.d (.str p.shown))
      | none => False
    | some (.tup ds) => match (D.tup ds).py with
      | some p => SeqAt.shaped p = true ∧ p.showable = true ∧ p.shown.length ≤ szl ∧ Q (.d (.str p.shown))
      | none => False
    | _ => False
  | _, _ => False
theorem dp_ref {K : PySem.W.Frag} {G H : Hp} {so : Option Addr} {v : V} {dv : DV} {d : D} (w : VOk K G so H v dv) (e : dv.dat = some d) (h : (∃ ds, d = .lst ds) ∨ ∃ ds, d = .tup ds) : ∃ a, v = .ref a := by
  cases dv with
  | src => cases e
  | own o => obtain ⟨a, q, _⟩ := w; exact ⟨a, q⟩
  | bor o => obtain ⟨a, q, _⟩ := w; exact ⟨a, q⟩
  | see o => obtain ⟨a, q, _⟩ := w; exact ⟨a, q⟩
  | d x =>
    cases e
    rcases h with ⟨ds, rfl⟩ | ⟨ds, rfl⟩
    · cases w; exact ⟨_, rfl⟩
    · cases w; exact ⟨_, rfl⟩
theorem sem_repr {K : PySem.W.Frag} : CallSem K (rReprD K) reprR := by
  intro G so H xs dxs Q R h w q k
  unfold reprR at q
  split at q
  · obtain ⟨v, rfl, w1, _⟩ := w.v1
    split at q
    · rename_i ds e
      split at q
      · rename_i p ep
        obtain ⟨a, rfl⟩ := dp_ref w1 e (.inl ⟨ds, rfl⟩)
        exact ⟨a, p, rfl, w1.dp h e ep, q.1, q.2.1, by rw [← szl_eq]; exact q.2.2.1, k _ H G _ (.dat h (.str _)) q.2.2.2⟩
      · exact q.elim
    · rename_i ds e
      split at q
      · rename_i p ep
        obtain ⟨a, rfl⟩ := dp_ref w1 e (.inr ⟨ds, rfl⟩)
        exact ⟨a, p, rfl, w1.dp h e ep, q.1, q.2.1, by rw [← szl_eq]; exact q.2.2.1, k _ H G _ (.dat h (.str _)) q.2.2.2⟩
      · exact q.elim
    · exact q.elim
  · exact q.elim
end DL

set_option Elab.async false
set_option linter.all false
set_option maxRecDepth 100000
set_option autoImplicit false
set_option maxHeartbeats 2000000
namespace DL
open PySem PySem.Spec PyProof.Rows L2

/-! ### defs by readings of the layer below -/
structure FnR (P : Program) (w : World) (K : PySem.W.Frag) (mg : Str → Option Value) (base : Heap) (k : Nat) (f : Addr) (fd : FuncData) (ps : List Str) (sp : Sp) : Prop where
  len : ∀ vs H Q E, sp vs H Q E → vs.length = ps.length
  run : ∀ (A : Around) (outer : List Env) (s : Shared) (H : Hp) (args : Args) (us : List Value) (vs : List V) (Q : VK) (E : XK), Room k A → A.guards = some [] → Env0 P w K mg base A outer s H → BindsTo s fd args (ps.zip us) → Vals vs us → sp vs H Q E →
    codeAny (model P w) A (.call (.ref f) args) (CR (L2.CX P w) outer P w H s Q E) s
theorem fnR_of {P : Program} {w : World} {K : PySem.W.Frag} {mg : Str → Option Value} {base : Heap} {x qual : Str} {params : Arguments} {body : List Stmt} {scope : Scope} {dvs : List V} {kws : List (Str × V)} {f : Addr} {fd : FuncData} {N ps : List Str} {k : Nat} {sp : Sp}
    (F : FunD K x qual params body scope dvs kws f fd) (S : FnScope N ps scope) (len : ∀ vs H Q E, sp vs H Q E → vs.length = ps.length)
    (hd : ∀ (cdv : Value) (A : Around) (outer : List Env) (s : Shared) (H : Hp) (vs : List V) (Q : VK) (E : XK), Room k (A.deeper (envOfC qual scope s.heap.objs.size f cdv)) → (cxOf (L2.CX P w) P w K mg base N qual scope f cdv A outer s H E).A.guards = some [] → sp vs H Q E →
      ∃ t, PSs (cxOf (L2.CX P w) P w K mg base N qual scope f cdv A outer s H E) body t ∧ t { nx := fun _ H' => Q .non H', rt := Q } (L2.start N vs) H) : FnR P w K mg base (k + 1) f fd ps sp := by
  obtain ⟨oc, od, dV, kV, doc, pm, an, cdv, ct, osl, rfl, lk, hcd, _, _⟩ := F.ex
  refine ⟨len, fun A outer s H args us vs Q E hroom hg e0 hb r hsp => ?_⟩
  have KX : K.In s.heap := e0.mod.kin.keeps fun b o e => (e0.bs b o e).1
  have lim : s.heap.NoLimit := e0.mod.nolimit.keeps fun b o e => (e0.bs b o e).1
  have hkind : ((ps.zip us).all fun y => scope.names.lookup y.1 == some .local || scope.names.lookup y.1 == some .cell) = true := by
    rw [List.all_eq_true]
    rintro ⟨n, u⟩ hy
    rcases S.par n (List.of_mem_zip hy).1 with z | z
    · show (scope.names.lookup n == some .local || _) = true
      rw [z]; rfl
    · show (scope.names.lookup n == some .local || scope.names.lookup n == some .cell) = true
      rw [z]; rfl
  refine Att.call_fn KX lim lk hcd hroom.depth hb hkind (fun s1 x => ?_) S.co S.gen S.kind
  have I := inv_start (CX := L2.CX P w) (E := E) S hroom.hd e0 (len _ _ _ _ hsp) r x
  obtain ⟨t, pt, qt⟩ := hd cdv A outer s H vs Q E (hroom.deeper _) hg hsp
  refine wpAny_mono (pt.run [] s1 (L2.start N vs) H _ I qt) (fun fl s' hs => ?_) fun e s' hs => hs
  cases fl with
  | ret u =>
    obtain ⟨v, σ', H', J, rv, z⟩ := hs
    exact ⟨v, H', J.os, J.bare, J.base, J.hok, rv, z⟩
  | next =>
    obtain ⟨σ', H', J, z⟩ := hs
    exact ⟨.non, H', J.os, J.bare, J.base, J.hok, rfl, z⟩
  | brk => obtain ⟨_, _, _, z⟩ := hs; exact False.elim z
  | cont => obtain ⟨_, _, _, z⟩ := hs; exact False.elim z
theorem FnR.g {P : Program} {w : World} {K : PySem.W.Frag} {mg : Str → Option Value} {base : Heap} {k : Nat} {f : Addr} {fd : FuncData} {ps : List Str} {sp : SpD} (F : FnR P w K mg base k f fd ps (upSp K sp)) (len : ∀ args Q E, sp args Q E → args.length = ps.length) : FnG P w K mg base k f fd ps sp := ⟨len, F.run⟩
theorem FnG.r {P : Program} {w : World} {K : PySem.W.Frag} {mg : Str → Option Value} {base : Heap} {k : Nat} {f : Addr} {fd : FuncData} {ps : List Str} {sp : SpD} (F : FnG P w K mg base k f fd ps sp) : FnR P w K mg base k f fd ps (upSp K sp) :=
  ⟨fun vs H Q E ⟨G, so, as, QD, ED, _, w, q, _⟩ => w.length.trans (F.len _ _ _ q), F.run⟩
/-- f(e, ..) by such a promise, nothing raised -/
theorem pe_callR {X : Cx} {k : Nat} {f : Addr} {fd : FuncData} {ps : List Str} {sp : Sp} {x : Str} {p pos : Pos} {e : Expr} {es : List Expr} {t : TA} (F : FnR X.prog X.w X.K X.mg X.base k f fd ps sp) (hr : Room k X.A) (hgd : X.A.guards = some []) (hg : Gl X x) (hm : X.mg x = some (.ref f)) (hk : PySem.W.keepIn X.K (.ref f) = true) (hb : Binds X.K fd ps [])
    (ha : PA X (e :: es) t) (hdb : (x == ("__debug__" : Str)) = false := by decide) (he : starEach (e :: es) X.env = (false, eval e X.env) :: starEach es X.env := by rfl) (hpl : (backTo pos (starEach es X.env)).any (·.1) = false := by rfl) :
    PE X (.Call (.Name x p) (e :: es) [] pos) (fun σ H Q => t σ H fun vs H1 => sp vs H1 Q E0) := by
  refine ⟨fun pins s σ H Q I h => wpAny_Call_Name_kw (ld_glob I hg hm ?_ hdb)⟩
  refine PySem.W.callWith_K (h₀ := X.base) I.ok.mod.kin hk (thn (ha.run pos pins s σ H _ I h) fun us s1 ⟨vs, H1, I1, r, q⟩ => ⟨I1.kIn, ?_⟩) he hpl
  have hl : (us ++ []).length = ps.length := by rw [List.append_nil, ← r.length]; exact F.len _ _ _ _ q
  have hb2 := hb s1 us I1.kIn hl
  rw [List.append_nil] at hb2
  refine wpAny_call (codeAny_mono (F.run X.A X.stack s1 H1 ⟨us, []⟩ us vs Q E0 hr hgd I1.env0 hb2 r q) fun r s' hq => ?_)
  cases r with
  | error e => exact passL pins σ H1 s1 e s' I1 hq
  | ok fl =>
    cases fl with
    | ret u => exact I1.after hq
    | next => exact False.elim hq
    | brk => exact False.elim hq
    | cont => exact False.elim hq

/-! ### the law's own end -/
/-- the law's promise, from the heap behind the top: it hands back True -/
theorem law_callG {P : Program} {w : World} {K : PySem.W.Frag} {mg mb : Str → Option Value} {k : Nat} {fa a : Addr} {fd : FuncData} {x : Str} {sp : Sp} {s1 : Shared} {vs : List Value} {ns : List Int}
    (KX : K.In s1.heap) (hns : s1.heap.Ns mainGlobals mg) (hb : s1.heap.Ns builtinsNs mb) (hbb : ∀ x : Str, x ≠ "__name__" → mb x = bootBuiltins x) (hlim : s1.heap.NoLimit) (hg : s1.gens = #[])
    (ha : s1.heap.get? a = some { cls := .type "list", data := .seq vs.toArray }) (hi : IntsAre vs ns) (hl : ns.length ≤ sizeLine) (hr : Room k callerA)
    (F : ∀ base : Heap, K.In base → base.Ns mainGlobals mg → FnR P w K mg base k fa fd [x] sp) (hbind : ∀ (s : Shared) (u : Value), BindsTo s fd ⟨[u], []⟩ [(x, u)])
    (hsp : ∀ H : Hp, SqL K H a (ns.map V.int) → sp [.ref a] H (fun v _ => v = .bl true) fun _ _ _ => False) :
    codeAny (model P w) callerA (.call (.ref fa) ⟨[.ref a], []⟩) (fun r s' => r = .ok (.ret (.bool true)) ∧ OldK s1.heap s'.heap ∧ s'.os = s1.os ∧ AllBare s'.gens) s1 := by
  have rv := vals_ints hi
  have core : ∀ H : Hp, Only H → SqL K H a (ns.map V.int) → HOk P w H s1.heap → (∀ b, H b ≠ none → b = a ∧ K.lookup a = none) →
      codeAny (model P w) callerA (.call (.ref fa) ⟨[.ref a], []⟩) (fun r s' => r = .ok (.ret (.bool true)) ∧ OldK s1.heap s'.heap ∧ s'.os = s1.os ∧ AllBare s'.gens) s1 := by
    intro H hO hS hok hA
    have lay : ∀ {b : Addr} {o : Obj}, s1.heap.get? b = some o → H b = none → (hidT s1.heap H).get? b = some o := fun e n => hidT_get e n
    have plain : ∀ {b : Addr} {m : Str → Option Value}, s1.heap.Ns b m → (hidT s1.heap H).Ns b m := fun {b m} ⟨o, es, ep, e, d, r⟩ => by
      refine ⟨o, es, ep, lay e ?_, d, r⟩
      cases q : H b with
      | none => rfl
      | some u =>
        obtain ⟨rfl, _⟩ := hA b (by rw [q]; simp)
        rw [ha] at e; cases e
        cases (show Data.seq vs.toArray _ = Data.dict es ep from d)
    have hKb : K.In (hidT s1.heap H) := fun b o e => lay (KX b o e) (by
      cases q : H b with
      | none => rfl
      | some u =>
        obtain ⟨rfl, z⟩ := hA b (by rw [q]; simp)
        rw [z] at e; cases e)
    have e0 : Env0 P w K mg (hidT s1.heap H) callerA [] s1 H := by
      refine ⟨rfl, ⟨hKb, plain hns, ⟨mb, plain hb, hbb⟩, ?_⟩, fun b o e => of_hidT e, Nat.le_of_eq (hidT_size _ _), trivial, fun b z => absurd (show b ∈ ([] : List Addr) from z) (by simp), hok, .of_eq hg⟩
      obtain ⟨mc, h1, h2⟩ := hlim
      exact ⟨mc, plain h1, h2⟩
    refine codeAny_mono ((F _ hKb (plain hns)).run callerA [] s1 H ⟨[.ref a], []⟩ [.ref a] [.ref a] _ _ hr rfl e0 (hbind s1 (.ref a)) (.cons rfl .nil) (hsp H hS)) fun r s' h => ?_
    cases r with
    | error e =>
      obtain ⟨_, _, _, _, _, _, _, _, _, _, _, _, z⟩ := h
      exact z.elim
    | ok fl =>
      cases fl with
      | next => exact False.elim h
      | brk => exact False.elim h
      | cont => exact False.elim h
      | ret u =>
        obtain ⟨v, H', os, bare, un, hok', r', q⟩ := h
        obtain rfl : v = .bl true := q
        obtain rfl : u = Value.bool true := r'
        refine ⟨rfl, OldK.of_keep fun b o e => ?_, os, bare⟩
        rcases hO b with z | ⟨ob, xs, z⟩
        · exact un.keep b o e z (fun y => absurd (show b ∈ ([] : List Addr) from y) (by simp)) (by simp)
        · obtain ⟨e1, _⟩ := hok b _ z
          obtain ⟨e2, _⟩ := hok' b _ (un.frzs b ob _ z)
          rw [e] at e1; cases e1
          exact e2
  cases hk : K.lookup a with
  | some o =>
    have e := KX a o hk
    rw [ha] at e; cases e
    refine core (fun _ => none) (fun _ => .inl rfl) (.inr ⟨_, vs.toArray, _, hk, rfl, rfl, rfl, ?_, by simpa using rv⟩) (fun b u z => (nomatch z)) fun b z => absurd rfl z
    rw [List.size_toArray, hi.length]; exact hl
  | none =>
    have at_a : ∀ b, (if b = a then some (HO.frz { cls := .type "list", data := .seq vs.toArray } (.lst (ns.map V.int))) else none) ≠ none → b = a := fun b z => by
      by_cases q : b = a
      · exact q
      · exact absurd (if_neg q) z
    refine core (fun b => if b = a then some (.frz { cls := .type "list", data := .seq vs.toArray } (.lst (ns.map V.int))) else none) (fun b => ?_) (.inl (.inr ⟨_, if_pos rfl⟩)) (fun b u z => ?_) fun b z => ⟨at_a b z, hk⟩
    · by_cases q : b = a
      · exact .inr ⟨_, _, if_pos q⟩
      · exact .inl (if_neg q)
    · obtain rfl := at_a b (fun y => by
        have y2 := y.symm.trans z
        cases y2)
      have z' := (if_pos rfl).symm.trans z
      cases z'
      exact ⟨ha, by rw [List.length_map]; exact hl, vs, _, rv, ha⟩
/-- the goal behind the head's word, from the law's promise -/
theorem walk_ofG {l : PySem.W.OpenLaw} {n k : Nat} {q : Program} {loose : List Str} {XP : (Str → Option Value) → Heap → Prop} {YP : World → Heap → Prop} {d : DefRec} {K : Params → PySem.W.Frag} {sp : World → Sp} {x : Str}
    (hn : l.most = some n) (hn2 : n ≤ sizeLine) (hdf : d.params.defaults = []) (hr : Room k callerA) (hY : ∀ (w : World) (h : Heap), YP w h → (K w.params).In h)
    (F : ∀ (w : World) (mg : Str → Option Value) (fa : Addr) (h : Heap), (K w.params).In h → h.Ns mainGlobals mg → mg d.name = some (.ref fa) →
      ∃ fd : FuncData, (∀ (s : Shared) (u : Value), BindsTo s fd ⟨[u], []⟩ [(x, u)]) ∧ ∀ base : Heap, (K w.params).In base → base.Ns mainGlobals mg → FnR l.prog w (K w.params) mg base k fa fd [x] (sp w))
    (hsp : ∀ (w : World) (H : Hp) (a : Addr) (ns : List Int), ns.length ≤ n → SqL (K w.params) H a (ns.map V.int) → sp w [.ref a] H (fun v _ => v = .bl true) fun _ _ _ => False) :
    PySem.W.WalkO q loose XP YP l.row.toRowW d [] (fun f vs => PySem.call f vs) := by
  refine Att.attach_call hn hdf fun w s0 s1 mg mb fa o pm cd doc a vs ns G Y ho hd hcd hmg hobj hints hlen hg => ?_
  have KX := hY w _ Y
  obtain ⟨fd, hb, hF⟩ := F w mg fa _ KX G.T.g hmg
  exact law_callG KX G.T.g G.T.b G.T.builtins G.T.nolimit hg hobj hints (Nat.le_trans hlen hn2) hr hF hb fun H hS => hsp w H a ns hlen hS
end DL

set_option Elab.async false
set_option linter.all false
set_option maxRecDepth 100000
set_option autoImplicit false
set_option maxHeartbeats 2000000
namespace DL
open PySem PySem.Spec PyProof.Rows L2

/-! ### the source of draws -/
def spSource (K : PySem.W.Frag) : Sp := fun vs H Q _ => ∃ (a : Addr) (ns : List Int), vs = [.ref a] ∧ SqL K H a (ns.map V.int) ∧ ns.length ≤ 63 ∧
  ∀ (H' : Hp) (p c : Addr) (ms : List Int) (sd : Int), Ex H H' → c ≠ p → H' p = some (.lst [.ref c, .int 0, .int 0, .int sd, .int 0]) → H' c = some (.lst (ms.map V.int)) → ms.length ≤ 63 → 0 ≤ sd → sd < 4294967296 → Q (.ref p) H'
def spDraw : SpD := fun args Q _ => ∃ m : Int, args = [.src, .d (.int m)] ∧ 0 < m ∧ m < 2 ^ 64 ∧ ∀ n : Int, 0 ≤ n → n < m → Q (.d (.int n))
/-- seq[a draw below its length] -/
def spOf : SpD := fun args Q _ => ∃ x : DV, args = [.src, x] ∧ (∀ o, x ≠ .see o) ∧ match x with
  | .d (.str z) => 0 < z.length ∧ z.length ≤ szl ∧ ∀ c ∈ z.cps.toList, Q (.d (.str ⟨#[c]⟩))
  | .d (.tup ds) => 0 < ds.length ∧ ds.length ≤ szl ∧ ∀ d ∈ ds, Q (.d d)
  | x => match x.items with
    | some ds => 0 < ds.length ∧ ds.length ≤ szl ∧ ∀ d ∈ ds, Q (.d d)
    | none => False
/-- a tree that repr shows -/
structure Shows (d : D) (p : PyData) : Prop where
  py : d.py = some p
  seq : (∃ ds, d = .lst ds) ∨ ∃ ds, d = .tup ds
  sh : SeqAt.shaped p = true
  sw : p.showable = true
  ln : p.shown.length ≤ szl
/-- two trees that are shown alike -/
def spSame : SpD := fun args Q _ => ∃ (d e : D) (p q : PyData), args = [.d d, .d e] ∧ Shows d p ∧ Shows e q ∧ Q (.d (.bl (decide (p.shown = q.shown))))
theorem same_true {Q : DV → Prop} {E : XE'} {d : D} {p : PyData} (h : Shows d p) (q : Q (.d (.bl true))) : spSame [.d d, .d d] Q E := ⟨d, d, p, p, rfl, h, h, by rw [decide_eq_true rfl]; exact q⟩
theorem same_eq {Q : DV → Prop} {E : XE'} {d e : D} {p : PyData} (h : Shows d p) (he : d = e) (q : Q (.d (.bl true))) : spSame [.d d, .d e] Q E := by subst he; exact same_true h q
theorem room65 {k : Nat} {A : Around} (hr : Room k A) : A.units + 65 < cLine := by have := hr.un; omega
theorem repr_ok {d : D} {p : PyData} {Q : DV → Prop} (s : Shows d p) (q : Q (.d (.str p.shown))) : reprR [.d d] Q := by
  unfold reprR
  rcases s.seq with ⟨ds, rfl⟩ | ⟨ds, rfl⟩
  · show (match (D.lst ds).py with | some p => SeqAt.shaped p = true ∧ p.showable = true ∧ p.shown.length ≤ szl ∧ Q (.d (.str p.shown)) | none => False)
    rw [s.py]
    exact ⟨s.sh, s.sw, s.ln, q⟩
  · show (match (D.tup ds).py with | some p => SeqAt.shaped p = true ∧ p.showable = true ∧ p.shown.length ≤ szl ∧ Q (.d (.str p.shown)) | none => False)
    rw [s.py]
    exact ⟨s.sh, s.sw, s.ln, q⟩

def spLaw (K : PySem.W.Frag) : Sp := fun vs H Q _ => ∃ (a : Addr) (ns : List Int), vs = [.ref a] ∧ SqL K H a (ns.map V.int) ∧ ns.length ≤ 63 ∧ ∀ H', Q (.bl true) H'
abbrev lawEnds : EndsD := { nx := fun _ => False, rt := fun v => v = .d (.bl true), bk := fun _ => False, ct := fun _ => False, xc := fun _ _ _ => False }
/-- the law behind its first statement -/
theorem law_up {K : PySem.W.Frag} {W : WX} {t : TDS} {D : Ends} {σ : L2.St} {H : Hp} {p c : Addr} {ms : List Int} {sd : Int} (n i : Nat) (hl : σ.length = n) (hi : σ[i]? = some (some (.ref p))) (hD : ∀ H', D.rt (.bl true) H')
    (cp : c ≠ p) (hp : H p = some (.lst [.ref c, .int 0, .int 0, .int sd, .int 0])) (hc : H c = some (.lst (ms.map V.int))) (hm : ms.length ≤ 63) (h0 : 0 ≤ sd) (h1 : sd < 4294967296)
    (h : t lawEnds ((List.replicate n none).set i (some .src))) : upS K W t D σ H := by
  refine ⟨fun b => if b = c then H c else none, some p, _, lawEnds, ?_, h, ⟨fun _ _ _ _ _ z => z.elim, fun _ _ _ _ _ z => z.elim, fun _ _ _ _ _ z => z.elim, fun v H' G' dv pr z => ?_, fun _ _ _ _ _ _ _ _ _ z => z.elim⟩⟩
  · have sl : ∀ (j : Nat) (dv : DV), ((List.replicate n none).set i (some DV.src))[j]? = some (some dv) → j = i ∧ dv = .src := fun j dv e => by
      rcases get_set e with ⟨z, e2⟩ | ⟨ne, e2⟩
      · exact ⟨z, Option.some.inj e2⟩
      · rw [List.getElem?_replicate] at e2
        split at e2 <;> cases e2
    refine ⟨⟨fun b o e => ?_, fun b e => ?_⟩, by simp [hl], fun j dv e => ?_, fun j k o o' b e1 _ _ _ => ?_, fun j o b e1 _ _ => ?_, fun j o e => ?_⟩
    · by_cases q : b = c
      · subst q; rw [if_pos rfl] at e; exact e
      · rw [if_neg q] at e; cases e
    · cases e
      exact ⟨if_neg (Ne.symm cp), c, ms, 0, 0, sd, 0, hp, SqL.of (by rw [if_pos rfl]; exact hc), hm, by omega, by omega, h0, h1⟩
    · obtain ⟨rfl, rfl⟩ := sl j dv e
      exact ⟨_, hi, p, rfl, rfl⟩
    · exact (nomatch (sl j _ e1).2)
    · exact (nomatch (sl j _ e1).2)
    · exact (nomatch (sl j _ e).2)
  · have w := pr.val
    rw [z] at w
    cases w
    exact hD H'

/-! ### loops by what holds between two turns -/
theorem forL_inv {g : TDG} {tb : TDS} {E : EndsD} (I : DSt → Prop) : ∀ (ds : List D) (sl : DSt), I sl → (∀ (N : DSt → Prop) (d : D) (s : DSt), (∀ s', I s' → N s') → d ∈ ds → I s → g d s fun s1 => tb { nx := N, ct := N, bk := E.nx, rt := E.rt, xc := E.xc } s1) → (∀ s, I s → E.nx s) → dForL g tb E ds sl
  | [], sl, h, _, fin => by rw [forL_nil]; exact fin sl h
  | d :: r, sl, h, step, fin => by
    rw [forL_cons]
    exact step _ d sl (fun s' i => forL_inv I r s' i (fun N e s k m => step N e s k (List.mem_cons_of_mem _ m)) fin) (List.mem_cons_self ..) h
/-- .. by the part that is left -/
theorem forL_ind {g : TDG} {tb : TDS} {E : EndsD} (I : List D → DSt → Prop) (step : ∀ (N : DSt → Prop) (d : D) (r : List D) (s : DSt), (∀ s', I r s' → N s') → I (d :: r) s → g d s fun s1 => tb { nx := N, ct := N, bk := E.nx, rt := E.rt, xc := E.xc } s1) (fin : ∀ s, I [] s → E.nx s) : ∀ (ds : List D) (sl : DSt), I ds sl → dForL g tb E ds sl
  | [], sl, h => by rw [forL_nil]; exact fin sl h
  | d :: r, sl, h => by
    rw [forL_cons]
    exact step _ d r sl (fun s' i => forL_ind I step fin r s' i) h
/-- a comprehension by what holds of its list -/
theorem lcL_ind {g : TDG} {tt : TDT} {te : TD} {vs : List Nat} {Q : DV → DSt → Prop} (I : List D → List D → DSt → Prop)
    (step : ∀ (N : List D → DSt → Prop) (d : D) (r acc : List D) (s : DSt), (∀ acc' s', I r acc' s' → N acc' s') → I (d :: r) acc s → g d s fun s1 => tt s1 (fun b s2 => Br b (te s2 (fun x s3 => match pubV x with
      | .d y => acc.length < szl ∧ N (acc ++ [y]) (wipeD s3 vs)
      | _ => False) fun _ _ _ => False) (N acc (wipeD s2 vs))) fun _ _ _ => False)
    (fin : ∀ acc s, I [] acc s → Q (.own (.lst acc)) s) : ∀ (ds acc : List D) (sl : DSt), I ds acc sl → dLcL g tt te vs Q ds acc sl
  | [], acc, sl, h => by rw [lcL_nil]; exact fin acc sl h
  | d :: r, acc, sl, h => by
    rw [lcL_cons]
    exact step _ d r acc sl (fun acc' s' i => lcL_ind I step fin r acc' s' i) h
end DL
namespace DL
open PySem PySem.Spec PyProof.Rows L2
/-- a constant of the module -/
def GlobD (K : PySem.W.Frag) (mg : Str → Option Value) (x : Str) (d : D) : Prop := ∃ v u, mg x = some u ∧ RelV v u ∧ ∀ G, DOk K G v d
theorem de_globD {X : Cx} {W : WX} {x : Str} {d : D} {pos : Pos} (hg : Gl X x) (h : GlobD X.K X.mg x d) (hdb : (x == ("__debug__" : Str)) = false := by decide) : DE X W (.Name x pos) (dC d) := by
  obtain ⟨v, u, h1, h2, h3⟩ := h
  exact de_c (pe_glob hg h1 h2 hdb) h3
/-- bindings -/
theorem vals_1 {v : V} {us : List Value} (r : Vals [v] us) : ∃ u, us = [u] ∧ RelV v u := vals1 r
theorem bd_of {K : PySem.W.Frag} {x qual : Str} {params : Arguments} {body : List Stmt} {scope : Scope} {kws : List (Str × V)} {f : Addr} {fd : FuncData} {ps ks : List Str} {n : Nat} {sel : List Sel} (F : FunD K x qual params body scope [] kws f fd) (g : List Value → List Value → List Value)
    (h : ∀ (kV doc pm : Value) (an : Option Addr) (cdv ct : Value) (us ws : List Value), us.length = n → ws.length = ks.length → bindArgs (PySem.W.fnOf x qual params body scope .none kV doc pm an cdv ct) ⟨us, ks.zip ws⟩ = pure (ps.zip (g us ws)))
    (hv : ∀ (vs qs : List V) (us ws : List Value), us.length = n → ws.length = ks.length → Vals vs us → Vals qs ws → Vals (sel.map (pickV vs qs)) (g us ws)) (hs : ∀ s ∈ sel, ∀ (v : V) (d : D), s = .dfl v d → ∀ G, DOk K G v d) : Bd K fd ps n ks sel := by
  obtain ⟨oc, od, dV, kV, doc, pm, an, cdv, ct, osl, rfl, lk, hcd, hD, hK⟩ := F.ex
  rcases hD with ⟨_, rfl⟩ | ⟨e, _⟩
  · exact ⟨fun s us ws vs qs _ l1 l2 r1 r2 => ⟨g us ws, .of_eq (h kV doc pm an cdv ct us ws l1 l2), hv vs qs us ws l1 l2 r1 r2⟩, hs⟩
  · exact absurd rfl e
/-- .. with positional defaults -/
theorem bd_dfl {K : PySem.W.Frag} {x qual : Str} {params : Arguments} {body : List Stmt} {scope : Scope} {dvs : List V} {kws : List (Str × V)} {f : Addr} {fd : FuncData} {ps ks : List Str} {n : Nat} {sel : List Sel} (F : FunD K x qual params body scope dvs kws f fd) (hd : dvs ≠ []) (g : List Value → List Value → List Value → List Value)
    (h : ∀ (T : Addr) (kV doc pm : Value) (an : Option Addr) (cdv ct : Value) (us ws its : List Value), us.length = n → ws.length = ks.length → its.length = dvs.length → ∃ k, bindArgs (PySem.W.fnOf x qual params body scope (.ref T) kV doc pm an cdv ct) ⟨us, ks.zip ws⟩ = seqItems? (.ref T) >>= k ∧ k (some its.toArray) = pure (ps.zip (g us ws its)))
    (hv : ∀ (vs qs : List V) (us ws its : List Value), us.length = n → ws.length = ks.length → Vals vs us → Vals qs ws → Vals dvs its → Vals (sel.map (pickV vs qs)) (g us ws its)) (hs : ∀ s ∈ sel, ∀ (v : V) (d : D), s = .dfl v d → ∀ G, DOk K G v d) : Bd K fd ps n ks sel := by
  obtain ⟨oc, od, dV, kV, doc, pm, an, cdv, ct, osl, rfl, lk, hcd, hD, hK⟩ := F.ex
  rcases hD with ⟨e, _⟩ | ⟨_, T, o, its, m, rfl, lT, oT, rT⟩
  · exact absurd e hd
  · refine ⟨fun s us ws vs qs X l1 l2 r1 r2 => ⟨g us ws its, BindsTo.of_looks fun M => ?_, hv vs qs us ws its l1 l2 r1 r2 rT⟩, hs⟩
    obtain ⟨k, e1, e2⟩ := h T kV doc pm an cdv ct us ws its l1 l2 rT.length.symm
    rw [e1]
    exact looks_items X lT oT (.of_pure e2)
end DL
namespace DL
open PySem PySem.Spec PyProof.Rows L2
theorem sh_str (s : Str) (h : PyData.strOk s = true) : SeqAt.shaped (.str s) = true := by simp [SeqAt.shaped, PyData.canLay0, PyData.depth, h]
theorem sh_int (s : Int) : SeqAt.shaped (.int s) = true := by simp [SeqAt.shaped, PyData.canLay0, PyData.depth]
theorem sh_bool (s : Bool) : SeqAt.shaped (.bool s) = true := by simp [SeqAt.shaped, PyData.canLay0, PyData.depth]
theorem sh_none : SeqAt.shaped .none = true := by simp [SeqAt.shaped, PyData.canLay0, PyData.depth]
theorem isi_ok {x : DV} {d : D} {t T : String} {b : Bool} {Q : DV → Prop} (hx : x.dat = some d) (ht : tyD d = some t) (hk : kitB t T = some b) (q : Q (.d (.bl b))) : isiR [x, .d (.raw (.ty T))] Q := by
  unfold isiR
  show (match x.dat with | some d => (match tyD d with | some t => (match kitB t T with | some b => Q (.d (.bl b)) | none => False) | none => False) | none => False)
  rw [hx]
  show (match tyD d with | some t => (match kitB t T with | some b => Q (.d (.bl b)) | none => False) | none => False)
  rw [ht]
  show (match kitB t T with | some b => Q (.d (.bl b)) | none => False)
  rw [hk]
  exact q
theorem kit_str_str : kitB "str" "str" = some true := by decide +kernel
theorem kit_non_str : kitB "NoneType" "str" = some false := by decide +kernel
theorem kit_bool_str : kitB "bool" "str" = some false := by decide +kernel
theorem kit_int_str : kitB "int" "str" = some false := by decide +kernel
theorem kit_list_str : kitB "list" "str" = some false := by decide +kernel
theorem kit_tuple_str : kitB "tuple" "str" = some false := by decide +kernel
end DL

set_option Elab.async false
set_option linter.all false
set_option maxRecDepth 100000
set_option autoImplicit false
set_option maxHeartbeats 2000000
/-! the leaves of readings, one step each -/
namespace DL
open PySem PySem.Spec PyProof.Rows L2
section
variable {Q : DV → Prop} {i j : Int} {a b z : Str} {ds es : List D} {d e : D} {v w : DV}
theorem l_addI (q : Q (.d (.int (i + j)))) : addR (.d (.int i)) (.d (.int j)) Q := by unfold addR; exact q
theorem l_addS (h : a.length + b.length ≤ szl) (q : Q (.d (.str (a ++ b)))) : addR (.d (.str a)) (.d (.str b)) Q := by unfold addR; exact ⟨h, q⟩
theorem l_addT (h : ds.length + es.length ≤ szl) (q : Q (.d (.tup (ds ++ es)))) : addR (.d (.tup ds)) (.d (.tup es)) Q := by unfold addR; exact ⟨h, q⟩
theorem l_addL (hv : v.items = some ds) (hw : w.items = some es) (h : ds.length + es.length ≤ szl) (q : Q (.own (.lst (ds ++ es)))) : addR v w Q := by
  unfold addR
  split
  · cases hv
  · cases hv
  · cases hv
  · rw [hv, hw]; exact ⟨h, q⟩
theorem l_int0 {f : Int → Int → D} (q : Q (.d (f i j))) : intR0 f (.d (.int i)) (.d (.int j)) Q := by unfold intR0; exact q
theorem l_int1 {C : Int → Int → Prop} {f : Int → Int → D} (h : C i j) (q : Q (.d (f i j))) : intR C f (.d (.int i)) (.d (.int j)) Q := by unfold intR; exact ⟨h, q⟩
theorem l_neg (q : Q (.d (.int (-i)))) : negR (.d (.int i)) Q := by unfold negR; exact q
theorem l_eqI {n : Bool} (q : Q (.d (.bl (if n then !decide (i = j) else decide (i = j))))) : eqR n (.d (.int i)) (.d (.int j)) Q := by unfold eqR; exact q
theorem l_eqS {n : Bool} (q : Q (.d (.bl (if n then !decide (a = b) else decide (a = b))))) : eqR n (.d (.str a)) (.d (.str b)) Q := by unfold eqR; exact q
theorem l_eqB {n x y : Bool} (q : Q (.d (.bl (if n then !decide (x = y) else decide (x = y))))) : eqR n (.d (.bl x)) (.d (.bl y)) Q := by unfold eqR; exact q
theorem l_eqD {n : Bool} {p p' : PyData} (hv : v.dat = some d) (hw : w.dat = some e) (h1 : d.py = some p) (h2 : e.py = some p') (s1 : SeqAt.shaped p = true) (s2 : SeqAt.shaped p' = true) (hn : (∃ x, p = .list x) ∨ (∃ x, p = .tuple x) ∨ p = .none) (q : Q (.d (.bl (if n then !PyData.eqv p p' else PyData.eqv p p')))) : eqR n v w Q := by
  unfold eqR
  split
  · cases hv; cases h1; rcases hn with ⟨x, z⟩ | ⟨x, z⟩ | z <;> cases z
  · cases hv; cases h1; rcases hn with ⟨x, z⟩ | ⟨x, z⟩ | z <;> cases z
  · cases hv; cases h1; rcases hn with ⟨x, z⟩ | ⟨x, z⟩ | z <;> cases z
  · unfold eqDeep
    rw [hv, hw]
    dsimp only
    rw [h1, h2]
    exact ⟨s1, s2, q⟩
theorem l_truB {P : Bool → Prop} {x : Bool} (q : P x) : truR (.d (.bl x)) P := by unfold truR; exact q
theorem l_truI {P : Bool → Prop} (q : P (i != 0)) : truR (.d (.int i)) P := by unfold truR; exact q
theorem l_truN {P : Bool → Prop} (q : P false) : truR (.d .non) P := by unfold truR; exact q
theorem l_truT {P : Bool → Prop} (q : P (!ds.isEmpty)) : truR (.d (.tup ds)) P := by unfold truR; exact q
theorem l_truL {P : Bool → Prop} (hv : v.items = some ds) (q : P (!ds.isEmpty)) : truR v P := by
  unfold truR
  split
  · cases hv
  · cases hv
  · cases hv
  · cases hv
  · cases hv
  · rw [hv]; exact q
theorem l_tup {xs : List DV} (h : dats xs = some ds) (hl : Nat.ble ds.length szl = true) (q : Q (.d (.tup ds))) : tupR xs Q := by
  unfold tupR; rw [h]; exact ⟨Nat.le_of_ble_eq_true hl, q⟩
theorem l_lst {xs : List DV} (h : dats xs = some ds) (hl : Nat.ble ds.length szl = true) (q : Q (.own (.lst ds))) : lstR xs Q := by
  unfold lstR; rw [h]; exact ⟨Nat.le_of_ble_eq_true hl, q⟩
theorem l_iterT {P : List D → Prop} (q : P ds) : iterR (.d (.tup ds)) P := by unfold iterR; exact q
theorem l_iterS {P : List D → Prop} (q : P (signs z)) : iterR (.d (.str z)) P := by unfold iterR; exact q
theorem l_iterL {P : List D → Prop} (q : P ds) : iterR (.d (.lst ds)) P := by unfold iterR; exact q
theorem l_iterB {P : List D → Prop} (q : P ds) : iterR (.bor (.lst ds)) P := by unfold iterR; exact q
theorem l_rng1 {P : List D → Prop} (h1 : -(2 ^ 62) ≤ j) (h2 : j < 2 ^ 62) (q : P (intsFrom 0 j.toNat)) : rngR1 [.d (.int j)] P := by unfold rngR1; exact ⟨h1, h2, q⟩
theorem l_rng2 {P : List D → Prop} (h : -(2 ^ 62) ≤ i ∧ i < 2 ^ 62 ∧ -(2 ^ 62) ≤ j ∧ j < 2 ^ 62) (q : P (intsFrom i (j - i).toNat)) : rngR2 [.d (.int i), .d (.int j)] P := by unfold rngR2; exact ⟨h, q⟩
theorem l_enum {P : List D → Prop} (q : P (enumFrom 0 ds)) : enumR [.d (.lst ds)] P := by unfold enumR; exact q
theorem l_zipT {P : List D → Prop} (q : P (zipD ds es)) : zipR [.d (.tup ds), .d (.tup es)] P := by unfold zipR; exact q
theorem l_zipL {P : List D → Prop} (q : P (zipD ds es)) : zipR [.d (.lst ds), .d (.lst es)] P := by unfold zipR; exact q
theorem l_lenS (h : z.length ≤ szl) (q : Q (.d (.int z.length))) : lenR [.d (.str z)] Q := by unfold lenR; exact ⟨h, q⟩
theorem l_lenT (q : Q (.d (.int ds.length))) : lenR [.d (.tup ds)] Q := by unfold lenR; exact q
theorem l_lenL (hv : v.items = some ds) (q : Q (.d (.int ds.length))) : lenR [v] Q := by
  unfold lenR
  split
  · rename_i h; cases h; cases hv
  · rename_i h; cases h; cases hv
  · rename_i h; cases h; rw [hv]; exact q
  · rename_i h; exact absurd rfl (h v)
theorem l_int (q : Q (.d (.int i))) : intC [.d (.int i)] Q := by unfold intC; exact q
theorem l_abs (q : Q (.d (.int (if i < 0 then -i else i)))) : absR [.d (.int i)] Q := by unfold absR; exact q
theorem l_str (h : i.natAbs.log2 < 1920) (q : Q (.d (.str (toString i)))) : strR [.d (.int i)] Q := by unfold strR; exact ⟨h, q⟩
theorem l_listT (q : Q (.own (.lst ds))) : listR [.d (.tup ds)] Q := by unfold listR; exact q
theorem l_listL (hv : v.items = some ds) (q : Q (.own (.lst ds))) : listR [v] Q := by
  unfold listR
  split
  · rename_i h; cases h; cases hv
  · rename_i h; cases h; rw [hv]; exact q
  · rename_i h; exact absurd rfl (h v)
theorem l_tupleT (q : Q (.d (.tup ds))) : tupleR [.d (.tup ds)] Q := by unfold tupleR; exact q
theorem l_tupleL (hv : v.items = some ds) (q : Q (.d (.tup ds))) : tupleR [v] Q := by
  unfold tupleR
  split
  · rename_i h; cases h; cases hv
  · rename_i h; cases h; rw [hv]; exact q
  · rename_i h; exact absurd rfl (h v)
theorem l_all {bs : List Bool} (hv : v.items = some ds) (hb : bools ds = some bs) (q : Q (.d (.bl (bs.all id)))) : allR [v] Q := by
  unfold allR
  dsimp only
  rw [hv]
  dsimp only
  rw [hb]
  exact q
theorem l_gcd (q : Q (.d (.int (Int.gcd i j)))) : gcdR [.d (.int i), .d (.int j)] Q := by unfold gcdR; exact q
theorem l_inC {n : Bool} {c : Nat} (h : a.cps.toList = [c]) (q : Q (.d (.bl (if n then !decide (c ∈ z.cps.toList) else decide (c ∈ z.cps.toList))))) : inR n (.d (.str a)) (.d (.str z)) Q := by
  unfold inR
  dsimp only
  rw [h]
  exact q
theorem l_inT {n : Bool} (h1 : flatD d = true) (h2 : ds.all flatD = true) (q : Q (.d (.bl (if n then !inF d ds else inF d ds)))) : inR n (.d d) (.d (.tup ds)) Q := by
  unfold inR
  split
  · rename_i h; cases h
  · unfold inSeqR; exact ⟨h1, h2, q⟩
theorem items_cases (h : v.items = some ds) : v = .d (.lst ds) ∨ v = .own (.lst ds) ∨ v = .bor (.lst ds) ∨ v = .see (.lst ds) := by
  unfold DV.items at h
  split at h <;> first | (cases h; done) | (injection h with h; subst h; simp)
theorem l_inL {n : Bool} (hv : v.items = some ds) (h1 : flatD d = true) (h2 : ds.all flatD = true) (q : Q (.d (.bl (if n then !inF d ds else inF d ds)))) : inR n (.d d) v Q := by
  rcases items_cases hv with e | e | e | e <;> subst e <;> (unfold inR; unfold inSeqR; cases d <;> exact ⟨h1, h2, q⟩)
theorem l_ixT (h : atI ds i = some d) (q : Q (.d d)) : ixR (.d (.tup ds)) (.d (.int i)) Q := by
  unfold ixR
  dsimp only
  rw [h]; exact q
theorem l_ixS {c : Nat} (hz : z.length ≤ szl) (h : atI z.cps.toList i = some c) (q : Q (.d (.str ⟨#[c]⟩))) : ixR (.d (.str z)) (.d (.int i)) Q := by
  unfold ixR
  refine ⟨hz, ?_⟩
  rw [h]; exact q
theorem l_ixL (hv : v.items = some ds) (h : atI ds i = some d) (q : Q (.d d)) : ixR v (.d (.int i)) Q := by
  rcases items_cases hv with e | e | e | e <;> subst e <;> (unfold ixR; dsimp only [DV.items]; rw [h]; exact q)
theorem l_slT {lo hi : Option Int} (q : Q (.d (.tup (cut ds lo hi)))) : slR (.d (.tup ds)) lo hi Q := by unfold slR; exact q
theorem l_slS {lo hi : Option Int} (hz : z.length ≤ szl) (q : Q (.d (.str (cutS z lo hi)))) : slR (.d (.str z)) lo hi Q := by unfold slR; exact ⟨hz, q⟩
theorem l_slL {lo hi : Option Int} (hv : v.items = some ds) (q : Q (.own (.lst (cut ds lo hi)))) : slR v lo hi Q := by
  unfold slR
  split
  · cases hv
  · cases hv
  · rw [hv]; exact q
theorem l_join {ss : List Str} (hv : seqD v = some ds) (hs : strsD ds = some ss) (h : (ss.map (·.length)).sum + ss.length * a.length ≤ 16777216) (q : Q (.d (.str (Txt.join a ss)))) : joinR (.d (.str a)) v Q := by
  unfold joinR
  dsimp only
  rw [hv]
  dsimp only
  rw [hs]
  exact ⟨h, q⟩
end
end DL

set_option Elab.async false
set_option linter.all false
set_option maxRecDepth 100000
set_option autoImplicit false
set_option maxHeartbeats 2000000
/-! comprehensions and loops of a known course -/
namespace DL
open PySem PySem.Spec PyProof.Rows L2
section
variable {g : TDG} {tt : TDT} {te : TD} {vs : List Nat} {Q : DV → DSt → Prop}
theorem lcL_fm (p : D → Bool) (f : D → D) (S : DSt) : ∀ (ds acc : List D), acc.length + ds.length ≤ szl →
    (∀ d ∈ ds, ∀ (M : D → DSt → Prop) (A : DSt → Prop), (p d = true → M (f d) S) → (p d = false → A S) → g d S fun s1 => tt s1 (fun b s2 => Br b (te s2 (fun x s3 => match pubV x with
      | .d y => M y (wipeD s3 vs)
      | _ => False) fun _ _ _ => False) (A (wipeD s2 vs))) fun _ _ _ => False) →
    Q (.own (.lst (acc ++ (ds.filter p).map f))) S → dLcL g tt te vs Q ds acc S
  | [], acc, _, _, q => by rw [lcL_nil]; rw [List.filter_nil, List.map_nil, List.append_nil] at q; exact q
  | d :: r, acc, hl, step, q => by
    rw [lcL_cons]
    have hl2 : acc.length + (r.length + 1) ≤ szl := hl
    refine step d (List.mem_cons_self ..) (fun y s => acc.length < szl ∧ dLcL g tt te vs Q r (acc ++ [y]) s) (fun s => dLcL g tt te vs Q r acc s) (fun e => ⟨by omega, ?_⟩) (fun e => ?_)
    · refine lcL_fm p f S r _ (by rw [List.length_append, List.length_singleton]; omega) (fun d' h => step d' (List.mem_cons_of_mem _ h)) ?_
      rw [List.filter_cons_of_pos e, List.map_cons] at q
      rw [List.append_assoc, List.singleton_append]; exact q
    · refine lcL_fm p f S r _ (by omega) (fun d' h => step d' (List.mem_cons_of_mem _ h)) ?_
      rw [List.filter_cons_of_neg (by simp [e])] at q
      exact q
theorem lcL_map (f : D → D) (S : DSt) {ds : List D} (hl : ds.length ≤ szl)
    (step : ∀ d ∈ ds, ∀ (M : D → DSt → Prop) (A : DSt → Prop), M (f d) S → g d S fun s1 => tt s1 (fun b s2 => Br b (te s2 (fun x s3 => match pubV x with
      | .d y => M y (wipeD s3 vs)
      | _ => False) fun _ _ _ => False) (A (wipeD s2 vs))) fun _ _ _ => False) (q : Q (.own (.lst (ds.map f))) S) : dLcL g tt te vs Q ds [] S :=
  lcL_fm (fun _ => true) f S ds [] (by simpa using hl) (fun d h M A m _ => step d h M A (m rfl)) (by rw [List.filter_eq_self.mpr (fun _ _ => rfl)]; exact q)
/-- a comprehension whose entries are only known to be of a kind -/
theorem lcL_rel (R : D → Prop) (S : DSt) {ds0 : List D} (hl : ds0.length ≤ szl)
    (step : ∀ d ∈ ds0, ∀ (M : D → DSt → Prop) (A : DSt → Prop), (∀ y, R y → M y S) → g d S fun s1 => tt s1 (fun b s2 => Br b (te s2 (fun x s3 => match pubV x with
      | .d y => M y (wipeD s3 vs)
      | _ => False) fun _ _ _ => False) (A (wipeD s2 vs))) fun _ _ _ => False) (q : ∀ xs : List D, xs.length = ds0.length → (∀ x ∈ xs, R x) → Q (.own (.lst xs)) S) : dLcL g tt te vs Q ds0 [] S := by
  have go : ∀ (ds acc : List D), acc.length + ds.length = ds0.length → (∀ d ∈ ds, d ∈ ds0) → (∀ x ∈ acc, R x) → dLcL g tt te vs Q ds acc S := by
    intro ds
    induction ds with
    | nil => intro acc h1 _ h3; rw [lcL_nil]; exact q acc (by simpa using h1) h3
    | cons d r ih =>
      intro acc h1 h2 h3
      rw [List.length_cons] at h1
      rw [lcL_cons]
      refine step d (h2 d (List.mem_cons_self ..)) (fun y s => acc.length < szl ∧ dLcL g tt te vs Q r (acc ++ [y]) s) (fun s => dLcL g tt te vs Q r acc s) (fun y hy => ⟨by omega, ?_⟩)
      refine ih (acc ++ [y]) (by rw [List.length_append, List.length_singleton]; omega) (fun d' h => h2 d' (List.mem_cons_of_mem _ h)) (fun x hx => ?_)
      rcases List.mem_append.mp hx with h | h
      · exact h3 x h
      · rw [List.mem_singleton.mp h]; exact hy
  exact go ds0 [] (by simp) (fun _ h => h) (fun _ h => (nomatch h))
end
theorem bools_map {α : Type} (f : α → Bool) (xs : List α) : bools (xs.map fun x => D.bl (f x)) = some (xs.map f) := by
  induction xs with
  | nil => rfl
  | cons x r ih => show (bools (r.map fun x => D.bl (f x))).map (f x :: ·) = _; rw [ih]; rfl
theorem signs_len (z : Str) : (signs z).length = z.length := by simp [signs, Str.length]
theorem mem_signs {z : Str} {d : D} (h : d ∈ signs z) : ∃ c ∈ z.cps.toList, d = .str ⟨#[c]⟩ := by
  obtain ⟨c, h1, h2⟩ := List.mem_map.mp h
  exact ⟨c, h1, h2.symm⟩
end DL
namespace DL
open PySem PySem.Spec PyProof.Rows L2
theorem up_ss {X : Cx} (W : WX) {sts : List Stmt} {t : TDS} (h : DSs X W sts t) : PSs X sts (upS X.K W t) := h
theorem binds_of {K : PySem.W.Frag} {x qual : Str} {params : Arguments} {body : List Stmt} {scope : Scope} {kws : List (Str × V)} {f : Addr} {fd : FuncData} {ps : List Str} (F : FunD K x qual params body scope [] kws f fd)
    (h : ∀ (kV doc pm : Value) (an : Option Addr) (cdv ct : Value) (us : List Value), us.length = ps.length → bindArgs (PySem.W.fnOf x qual params body scope .none kV doc pm an cdv ct) ⟨us, []⟩ = pure (ps.zip us)) : Binds K fd ps [] := by
  obtain ⟨oc, od, dV, kV, doc, pm, an, cdv, ct, osl, rfl, lk, hcd, hD, hK⟩ := F.ex
  rcases hD with ⟨_, rfl⟩ | ⟨e, _⟩
  · exact Binds.all fun us hl => h kV doc pm an cdv ct us hl
  · exact absurd rfl e
theorem binds1_of {K : PySem.W.Frag} {x qual p : Str} {params : Arguments} {body : List Stmt} {scope : Scope} {kws : List (Str × V)} {f : Addr} {fd : FuncData} (F : FunD K x qual params body scope [] kws f fd)
    (h : ∀ (kV doc pm : Value) (an : Option Addr) (cdv ct : Value) (u : Value), bindArgs (PySem.W.fnOf x qual params body scope .none kV doc pm an cdv ct) ⟨[u], []⟩ = pure [(p, u)]) (s : Shared) (u : Value) : BindsTo s fd ⟨[u], []⟩ [(p, u)] := by
  obtain ⟨oc, od, dV, kV, doc, pm, an, cdv, ct, osl, rfl, lk, hcd, hD, hK⟩ := F.ex
  rcases hD with ⟨_, rfl⟩ | ⟨e, _⟩
  · exact .of_eq (h kV doc pm an cdv ct u)
  · exact absurd rfl e
end DL

set_option Elab.async false
set_option linter.all false
set_option maxRecDepth 100000
set_option autoImplicit false
set_option maxHeartbeats 2000000
/-! words and shown lists -/
namespace DL
open PySem PySem.Spec PyProof.Rows L2
abbrev sgS (c : Nat) : Str := ⟨#[c]⟩
abbrev sgD (c : Nat) : D := .str (sgS c)
abbrev wd (cs : List Nat) : Str := ⟨cs.toArray⟩
theorem wd_len (cs : List Nat) : (wd cs).length = cs.length := by simp [Str.length]
theorem strs_sg (cs : List Nat) : strsD (cs.map sgD) = some (cs.map sgS) := by
  induction cs with
  | nil => rfl
  | cons c r ih => show (strsD (r.map sgD)).map (sgS c :: ·) = _; rw [ih]; rfl
theorem sg_ex {A : List Nat} : ∀ {xs : List D}, (∀ x ∈ xs, ∃ c ∈ A, x = sgD c) → ∃ cs : List Nat, xs = cs.map sgD ∧ ∀ c ∈ cs, c ∈ A
  | [], _ => ⟨[], rfl, fun _ h => (nomatch h)⟩
  | x :: r, h => by
    obtain ⟨c, h1, h2⟩ := h x (List.mem_cons_self ..)
    obtain ⟨cs, h3, h4⟩ := sg_ex (xs := r) fun y hy => h y (List.mem_cons_of_mem _ hy)
    refine ⟨c :: cs, by rw [h2, h3]; rfl, fun e he => ?_⟩
    rcases List.mem_cons.mp he with z | z
    · rw [z]; exact h1
    · exact h4 e z
theorem joinL_sg : ∀ cs : List Nat, TL.joinL [] (cs.map fun c => [c]) = cs
  | [] => rfl
  | [_] => rfl
  | c :: e :: r => by
    show [c] ++ ([] ++ TL.joinL [] ((e :: r).map fun c => [c])) = _
    rw [joinL_sg (e :: r)]; rfl
theorem join_sg (cs : List Nat) : Txt.join "" (cs.map sgS) = wd cs := by
  refine TL.ext_tl ?_
  rw [TL.join_eq, TL.tl_join, List.map_map]
  exact joinL_sg cs
theorem sum_sg (cs : List Nat) : ((cs.map sgS).map (·.length)).sum = cs.length := by
  induction cs with
  | nil => rfl
  | cons c r ih => rw [List.map_cons, List.map_cons, List.sum_cons, ih, List.length_cons]; show 1 + _ = _; omega
theorem l_joinW {v : DV} {cs : List Nat} {Q : DV → Prop} (hv : seqD v = some (cs.map sgD)) (hl : cs.length ≤ szl) (q : Q (.d (.str (wd cs)))) : joinR (.d (.str "")) v Q := by
  refine l_join hv (strs_sg cs) ?_ (by rw [join_sg]; exact q)
  rw [sum_sg, List.length_map]
  show cs.length + cs.length * 0 ≤ _
  have : szl = 16777216 := rfl
  omega
end DL
namespace DL
open PySem PySem.Spec PyProof.Rows L2
section
variable {t u : TDS} {te : TD} {E : EndsD} {sl : DSt} {i : Nat}
/-- a row, and what holds of the slots behind it -/
theorem seq_cut (P : DSt → Prop) (h : ∀ N : DSt → Prop, (∀ s, P s → N s) → t { E with nx := N } sl) (q : ∀ s, P s → u E s) : dSeq t u E sl := h _ q
/-- name = value, the value known -/
theorem set_cut (x : D) (h : ∀ Q : DV → DSt → Prop, Q (.d x) sl → te sl Q E.xc) (q : u E (sl.set i (some (.d x)))) : dSeq (dSet te i) u E sl := h _ q
theorem set_cutL (ds : List D) (h : ∀ Q : DV → DSt → Prop, Q (.own (.lst ds)) sl → te sl Q E.xc) (q : u E (sl.set i (some (.own (.lst ds))))) : dSeq (dSet te i) u E sl := h _ q
/-- the value only known to be of a kind -/
theorem set_cutP (R : D → Prop) (h : ∀ Q : DV → DSt → Prop, (∀ x, R x → Q (.d x) sl) → te sl Q E.xc) (q : ∀ x, R x → u E (sl.set i (some (.d x)))) : dSeq (dSet te i) u E sl := h _ q
end
theorem eqv_nil (ps : List PyData) : PyData.eqv (.list ps) (.list []) = ps.isEmpty := by
  cases ps <;> simp [PyData.eqv, PyData.eqvAll]
theorem textFrom_le (L : Nat) : ∀ (ts : List Str) (k : Nat) (acc : Str), (∀ t ∈ ts, t.length ≤ L) → (PySem.textFrom k acc ts).length ≤ acc.length + ts.length * (L + 2)
  | [], k, acc, _ => by show acc.length ≤ _; omega
  | t :: r, k, acc, h => by
    have h1 := textFrom_le L r (k + 1) (acc ++ (if k > 0 then ", " else "" : String) ++ t) fun y hy => h y (List.mem_cons_of_mem _ hy)
    have h2 := h t (List.mem_cons_self ..)
    have e : (acc ++ (if k > 0 then ", " else "" : String) ++ t).length = acc.length + (if k > 0 then 2 else 0) + t.length := by
      rw [strLen_append, strLen_append]
      split <;> rfl
    rw [e] at h1
    show (PySem.textFrom (k + 1) (acc ++ (if k > 0 then ", " else "" : String) ++ t) r).length ≤ _
    rw [List.length_cons, Nat.add_mul]
    have h3 : (if k > 0 then 2 else 0) ≤ 2 := by split <;> omega
    omega
theorem join_le (L : Nat) : ∀ ts : List Str, (∀ t ∈ ts, t.length ≤ L) → (Str.join ", " ts).length ≤ ts.length * (L + 2)
  | [], _ => by show 0 ≤ _; omega
  | [x], h => by have := h x (List.mem_cons_self ..); show x.length ≤ 1 * (L + 2); omega
  | x :: y :: r, h => by
    have h1 := join_le L (y :: r) fun t ht => h t (List.mem_cons_of_mem _ ht)
    have h2 := h x (List.mem_cons_self ..)
    show (x ++ ", " ++ Str.join ", " (y :: r)).length ≤ (r.length + 1 + 1) * (L + 2)
    rw [strLen_append, strLen_append]
    have e2 : ((", " : String) : Str).length = 2 := rfl
    rw [List.length_cons] at h1
    rw [Nat.add_mul (r.length + 1)]
    omega
/-- a tree that is shown, with its depth and a bound on the text -/
structure Shw (n L : Nat) (d : D) (p : PyData) : Prop where
  py : d.py = some p
  lay : p.canLay0 = true
  dp : p.depth ≤ n
  sw : p.showable = true
  ln : p.shown.length ≤ L
inductive ShwAll (n L : Nat) : List D → List PyData → Prop where
  | nil : ShwAll n L [] []
  | cons {d : D} {p : PyData} {ds : List D} {ps : List PyData} (h : Shw n L d p) (t : ShwAll n L ds ps) : ShwAll n L (d :: ds) (p :: ps)
theorem ShwAll.map {n L : Nat} {α : Type} {f : α → D} {g : α → PyData} : ∀ {xs : List α}, (∀ x ∈ xs, Shw n L (f x) (g x)) → ShwAll n L (xs.map f) (xs.map g)
  | [], _ => .nil
  | x :: r, h => .cons (h x (List.mem_cons_self ..)) (ShwAll.map fun y hy => h y (List.mem_cons_of_mem _ hy))
namespace Shw
variable {n m L M : Nat} {d : D} {p : PyData}
theorem mono (h : Shw n L d p) (h1 : n ≤ m) (h2 : L ≤ M) : Shw m M d p := ⟨h.py, h.lay, Nat.le_trans h.dp h1, h.sw, Nat.le_trans h.ln h2⟩
theorem non : Shw 0 4 .non .none := ⟨rfl, by simp [PyData.canLay0], by simp [PyData.depth], by simp [PyData.showable], by simp [PyData.shown]; decide⟩
theorem bl (b : Bool) : Shw 0 5 (.bl b) (.bool b) := ⟨rfl, by simp [PyData.canLay0], by simp [PyData.depth], by simp [PyData.showable], by cases b <;> simp [PyData.shown] <;> decide⟩
theorem str {z : Str} (h : ∀ c ∈ z.cps.toList, c < 0x110000) (hl : z.length ≤ m) : Shw 0 (10 * m + 2) (.str z) (.str z) := by
  refine ⟨rfl, ?_, by simp [PyData.depth], by simp [PyData.showable], ?_⟩
  · simp only [PyData.canLay0, PyData.strOk]
    rw [Array.all_eq_true']
    intro c hc
    exact decide_eq_true (h c (Array.mem_def.mp hc))
  · have := PySem.StrLaws.reprText_len z fun c hc => Nat.lt_trans (h c hc) (by decide)
    simp only [PyData.shown]
    omega
theorem int {i : Int} {k : Nat} (hk : 0 < k) (h2 : k ≤ 500) (h0 : 0 ≤ i) (h : i < 10 ^ k) : Shw 0 k (.int i) (.int i) := by
  refine ⟨rfl, by simp [PyData.canLay0], by simp [PyData.depth], ?_, ?_⟩
  · simp only [PyData.showable]
    refine decide_eq_true ?_
    rcases Nat.eq_zero_or_pos i.natAbs with z | z
    · rw [z]; decide
    refine (Nat.log2_lt (by omega)).mpr ?_
    have h3 : i.natAbs < 10 ^ k := by
      have : ((i.natAbs : Nat) : Int) < ((10 ^ k : Nat) : Int) := by rw [Int.natAbs_of_nonneg h0]; simpa using h
      exact Int.ofNat_lt.mp this
    refine Nat.lt_of_lt_of_le h3 (Nat.le_trans (Nat.pow_le_pow_right (by decide) h2) ?_)
    decide +kernel
  · simp only [PyData.shown]
    exact toString_length_le h0 hk h
theorem all : ∀ {ds : List D} {ps : List PyData}, ShwAll n L ds ps → D.pyAll ds = some ps ∧ PyData.canLayAll0 ps = true ∧ PyData.depthAll ps ≤ n ∧ PyData.showableAll ps = true ∧ (∀ t ∈ PyData.shownAll ps, t.length ≤ L) ∧ (PyData.shownAll ps).length = ds.length
  | _, _, .nil => ⟨by simp [D.pyAll], by simp [PyData.canLayAll0], by simp [PyData.depthAll], by simp [PyData.showableAll], by simp [PyData.shownAll], by simp [PyData.shownAll]⟩
  | _, _, .cons (d := d) (p := p) (ds := ds) (ps := ps) h t => by
    obtain ⟨h1, h2, h3, h4, h5, h6⟩ := all t
    refine ⟨?_, ?_, ?_, ?_, ?_, ?_⟩
    · unfold D.pyAll; rw [h.py, h1]
    · unfold PyData.canLayAll0; rw [h.lay, h2]; rfl
    · unfold PyData.depthAll; exact Nat.max_le.mpr ⟨h.dp, h3⟩
    · unfold PyData.showableAll; rw [h.sw, h4]; rfl
    · unfold PyData.shownAll
      intro t ht
      rcases List.mem_cons.mp ht with z | z
      · rw [z]; exact h.ln
      · exact h5 t z
    · unfold PyData.shownAll; rw [List.length_cons, List.length_cons, h6]
theorem lst {ds : List D} {ps : List PyData} (h : ShwAll n L ds ps) (hl : ds.length ≤ m) : Shw (n + 1) (m * (L + 2) + 2) (.lst ds) (.list ps) := by
  obtain ⟨h1, h2, h3, h4, h5, h6⟩ := all h
  refine ⟨by unfold D.py; rw [h1]; rfl, by unfold PyData.canLay0; exact h2, by unfold PyData.depth; omega, by unfold PyData.showable; exact h4, ?_⟩
  unfold PyData.shown listText
  rw [strLen_append]
  have := textFrom_le L (PyData.shownAll ps) 0 "[" h5
  have e1 : (("[" : String) : Str).length = 1 := rfl
  have e2 : (("]" : String) : Str).length = 1 := rfl
  rw [h6] at this
  have := Nat.mul_le_mul_right (L + 2) hl
  omega
theorem tup {ds : List D} {ps : List PyData} (h : ShwAll n L ds ps) (hl : ds.length ≤ m) : Shw (n + 1) (m * (L + 2) + 3) (.tup ds) (.tuple ps) := by
  obtain ⟨h1, h2, h3, h4, h5, h6⟩ := all h
  refine ⟨by unfold D.py; rw [h1]; rfl, by unfold PyData.canLay0; exact h2, by unfold PyData.depth; omega, by unfold PyData.showable; exact h4, ?_⟩
  unfold PyData.shown tupleText
  rw [strLen_append, strLen_append]
  have e1 : (("(" : String) : Str).length = 1 := rfl
  have e2 : ((if (PyData.shownAll ps).length == 1 then ",)" else ")" : String) : Str).length ≤ 2 := by split <;> decide
  have e3 : (Str.join ", " (PyData.shownAll ps)).length ≤ m * (L + 2) := by
    have j := join_le L (PyData.shownAll ps) h5
    rw [h6] at j
    exact Nat.le_trans j (Nat.mul_le_mul_right _ hl)
  omega
end Shw
theorem Shw.shows {n L : Nat} {d : D} {p : PyData} (h : Shw n L d p) (hs : (∃ ds, d = .lst ds) ∨ ∃ ds, d = .tup ds) (h1 : n ≤ 64) (h2 : L ≤ szl) : Shows d p := ⟨h.py, hs, by simp [SeqAt.shaped, h.lay, Nat.le_trans h.dp h1], h.sw, Nat.le_trans h.ln h2⟩
end DL

set_option Elab.async false
set_option linter.all false
set_option maxRecDepth 100000
set_option autoImplicit false
set_option maxHeartbeats 2000000
/-! the head: what the top has written, by names -/
namespace DL
open PySem PySem.Spec PyProof.Rows L2
mutual
def datB (K : PySem.W.Frag) : D → Value → Bool
  | .non, u => (match u with | .none => true | _ => false)
  | .bl b, u => (match u with | .bool c => b == c | _ => false)
  | .int i, u => (match u with | .int j _ => decide (i = j) | _ => false)
  | .str x, u => (match u with | .str y _ => decide (x = y) | _ => false)
  | .tup ds, u => (match u with
    | .ref a => (match K.lookup a with
      | some ⟨.type c, _, .seq its _, _⟩ => decide (c = "tuple") && (decide (its.size ≤ sizeLine) && datsB K ds its.toList)
      | _ => false)
    | _ => false)
  | _, _ => false
def datsB (K : PySem.W.Frag) : List D → List Value → Bool
  | [], us => us.isEmpty
  | d :: ds, us => (match us with
    | u :: r => datB K d u && datsB K ds r
    | [] => false)
end
mutual
theorem datB_ok {K : PySem.W.Frag} : ∀ (d : D) (u : Value), datB K d u = true → ∃ v, RelV v u ∧ ∀ G, DOk K G v d
  | .non, u, h => by
    unfold datB at h
    split at h
    · exact ⟨.non, rfl, fun _ => .non⟩
    · cases h
  | .bl b, u, h => by
    unfold datB at h
    split at h
    · have e := eq_of_beq h
      exact ⟨.bl b, by rw [e]; rfl, fun _ => .bl b⟩
    · cases h
  | .int i, u, h => by
    unfold datB at h
    split at h
    · rename_i t
      exact ⟨.int i, ⟨t, by rw [of_decide_eq_true h]⟩, fun _ => .int i⟩
    · cases h
  | .str x, u, h => by
    unfold datB at h
    split at h
    · rename_i t
      exact ⟨.str x, ⟨t, by rw [of_decide_eq_true h]⟩, fun _ => .str x⟩
    · cases h
  | .tup ds, u, h => by
    unfold datB at h
    split at h
    · rename_i a
      split at h
      · rename_i c od its n sl q
        obtain ⟨h1, h2⟩ := He.ba h
        obtain ⟨h3, h4⟩ := He.ba h2
        obtain ⟨vs, r, w⟩ := datsB_ok ds its.toList h4
        exact ⟨.ref a, rfl, fun G => .tup (.inr ⟨_, its, n, q, congrArg Value.type (of_decide_eq_true h1), rfl, of_decide_eq_true h3, r⟩) (w G)⟩
      · cases h
    · cases h
  | .lst _, _, h => by unfold datB at h; cases h
  | .ins _ _, _, h => by unfold datB at h; cases h
  | .raw _, _, h => by unfold datB at h; cases h
theorem datsB_ok {K : PySem.W.Frag} : ∀ (ds : List D) (us : List Value), datsB K ds us = true → ∃ vs, Vals vs us ∧ ∀ G, DAll K G vs ds
  | [], us, h => by
    unfold datsB at h
    rw [List.isEmpty_iff] at h
    subst h
    exact ⟨[], .nil, fun _ => .nil⟩
  | d :: ds, us, h => by
    unfold datsB at h
    split at h
    · rename_i u r
      obtain ⟨h1, h2⟩ := He.ba h
      obtain ⟨v, r1, w1⟩ := datB_ok d u h1
      obtain ⟨vs, r2, w2⟩ := datsB_ok ds r h2
      exact ⟨v :: vs, .cons r1 r2, fun G => .cons (w1 G) (w2 G)⟩
    · cases h
end
def gloB (K : PySem.W.Frag) (q : Str × D) : Bool := match PySem.W.nsIn K mainGlobals q.1 with
  | some (some u) => datB K q.2 u
  | _ => false
theorem gloB_ok {K : PySem.W.Frag} {h : Heap} {mg : Str → Option Value} (X : K.In h) (G : h.Ns mainGlobals mg) {x : Str} {d : D} (c : gloB K (x, d) = true) : GlobD K mg x d := by
  unfold gloB at c
  split at c
  · rename_i u e
    obtain ⟨v, r, w⟩ := datB_ok d u c
    exact ⟨v, u, PySem.W.mg_of X G e, r, w⟩
  · cases c
def bltB (K : PySem.W.Frag) (q : Str × String) : Bool := He.eqO (PySem.W.nsIn K mainGlobals q.1) (some (some (.builtin q.2)))
/-- the Hook: names, defs, and constants -/
abbrev AlX : Type := Bool × He.AlD
def obsX (cs : List (Str × D)) (bs : List (Str × String)) (fa : List He.Fa) (fn : List He.DefD) (K : PySem.W.Frag) : AlX := (cs.all (gloB K) && bs.all (bltB K), He.obsD fa fn K)
def valX (fn : List He.DefD) : AlX := (true, He.valD fn)
structure SaysX (cs : List (Str × D)) (bs : List (Str × String)) (fa : List He.Fa) (fn : List He.DefD) (K : PySem.W.Frag) : Prop where
  c : (cs.all (gloB K) && bs.all (bltB K)) = true
  s : He.SaysD fa fn K
def obsXG (n : Nat) (cs : List (Str × D)) (bs : List (Str × String)) (fa : List He.Fa) (fn : List He.DefD) (g : Addr → Option Obj) : AlX := obsX cs bs fa fn (He.frG g (He.asD g n))
def hookX (n : Nat) (cs : List (Str × D)) (bs : List (Str × String)) (fa : List He.Fa) (fn : List He.DefD) : PySem.W.Hook where
  α := AlX
  obs := fun s => obsXG n cs bs fa fn s.heap.get?
  val := fun _ => valX fn
  says := fun _ h => ∃ K : PySem.W.Frag, K.In h ∧ SaysX cs bs fa fn K
  of := fun _ _ e => ⟨_, He.frG_in, ⟨congrArg (fun z : AlX => z.1) e, congrArg (fun z : AlX => z.2) e⟩⟩
  keeps := fun _ _ _ ⟨K, hK, c⟩ k => ⟨K, PySem.W.Frag.In.keeps hK k, c⟩
theorem obsXG_eq {n : Nat} {cs : List (Str × D)} {bs : List (Str × String)} {fa : List He.Fa} {fn : List He.DefD} {g : Addr → Option Obj} {s : Shared} (h : ∀ a, g a = s.heap.get? a) : obsXG n cs bs fa fn g = (hookX n cs bs fa fn).obs s := by
  have e : g = s.heap.get? := funext h
  rw [e] <;> rfl
theorem SaysX.glob {cs : List (Str × D)} {bs : List (Str × String)} {fa : List He.Fa} {fn : List He.DefD} {K : PySem.W.Frag} {h : Heap} {mg : Str → Option Value} (S : SaysX cs bs fa fn K) (X : K.In h) (G : h.Ns mainGlobals mg) (i : Nat) {x : Str} {d : D} (e : cs[i]? = some (x, d) := by rfl) : GlobD K mg x d :=
  gloB_ok X G (List.all_eq_true.mp (He.ba S.c).1 _ (List.mem_of_getElem? e))
theorem SaysX.blt {cs : List (Str × D)} {bs : List (Str × String)} {fa : List He.Fa} {fn : List He.DefD} {K : PySem.W.Frag} {h : Heap} {mg : Str → Option Value} (S : SaysX cs bs fa fn K) (X : K.In h) (G : h.Ns mainGlobals mg) (i : Nat) {x : Str} {b : String} (e : bs[i]? = some (x, b) := by rfl) : mg x = some (.builtin b) :=
  PySem.W.mg_of X G (He.eqO_ok (List.all_eq_true.mp (He.ba S.c).2 _ (List.mem_of_getElem? e)))
/-- the law's end -/
theorem walk_ofX {l : PySem.W.OpenLaw} {n k : Nat} {q : Program} {loose : List Str} {XP : (Str → Option Value) → Heap → Prop} {YP : World → Heap → Prop} {d : DefRec} {x : Str}
    (hn : l.most = some n) (hn2 : n ≤ sizeLine) (hdf : d.params.defaults = []) (hr : Room k callerA)
    (F : ∀ (w : World) (mg : Str → Option Value) (fa : Addr) (h : Heap), YP w h → h.Ns mainGlobals mg → mg d.name = some (.ref fa) →
      ∃ (K : PySem.W.Frag) (fd : FuncData) (sp : Sp), K.In h ∧ (∀ (s : Shared) (u : Value), BindsTo s fd ⟨[u], []⟩ [(x, u)]) ∧
        (∀ (H : Hp) (a : Addr) (ns : List Int), ns.length ≤ n → SqL K H a (ns.map V.int) → sp [.ref a] H (fun v _ => v = .bl true) fun _ _ _ => False) ∧
        ∀ base : Heap, K.In base → base.Ns mainGlobals mg → FnR l.prog w K mg base k fa fd [x] sp) :
    PySem.W.WalkO q loose XP YP l.row.toRowW d [] (fun f vs => PySem.call f vs) := by
  refine Att.attach_call hn hdf fun w s0 s1 mg mb fa o pm cd doc a vs ns G Y ho hd hcd hmg hobj hints hlen hg => ?_
  obtain ⟨K, fd, sp, KX, hb, hsp, hF⟩ := F w mg fa _ Y G.T.g hmg
  exact law_callG KX G.T.g G.T.b G.T.builtins G.T.nolimit hg hobj hints (Nat.le_trans hlen hn2) hr hF hb fun H hS => hsp H a ns hlen hS
end DL

set_option Elab.async false
set_option linter.all false
set_option maxRecDepth 100000
set_option autoImplicit false
set_option maxHeartbeats 2000000
/-! instances: fields, makers, methods; lists that are changed -/
namespace DL
open PySem PySem.Spec PyProof.Rows L2

/-! ### what is held alone is changed -/
section
variable {K : PySem.W.Frag} {G H : Hp} {so : Option Addr} {σ : L2.St} {sl : DSt} {i : Nat} {o o' : OO} {a : Addr} {u : HO}
theorem PostS.mut (r : Rep K G so σ H sl) (e1 : sl[i]? = some (some (.own o))) (e2 : σ[i]? = some (some (.ref a))) (w : OwnOk K G (upd H a u) a o') : PostS K G so σ H sl σ (upd H a u) G (sl.set i (some (.own o'))) := by
  have ow : Own sl σ a := ⟨i, o, e1, e2⟩
  obtain ⟨na, ga, sa⟩ := r.nown ow
  have li : i < sl.length := (List.getElem?_eq_some_iff.mp e1).1
  have ba : ∀ b, Own (sl.set i (some (.own o'))) σ b → Own sl σ b := fun b ⟨j, o2, f1, f2⟩ => by
    rcases get_set f1 with ⟨rfl, f3⟩ | ⟨nj, f3⟩
    · exact ⟨j, o, e1, f2⟩
    · exact ⟨j, o2, f3, f2⟩
  have gn : ∀ b q, G b = some q → b ≠ a := fun b q h z => by subst z; rw [ga] at h; cases h
  refine ⟨Ex.refl G, ⟨⟨fun b q h => by rw [upd_ne (gn b q h)]; exact r.h.ex b q h, fun b e => (r.h.src b e).keep (Ex.refl G) (r.h.src b e).1 (upd_ne fun z => sa (by rw [← z]; exact e))⟩, by rw [List.length_set]; exact r.len, fun j dv f => ?_, fun j k p p' b f1 f2 g1 g2 => ?_, fun j p b f1 f2 z => ?_, fun j p f => ?_⟩,
    fun b q h s n => by rw [upd_ne (fun z => n (by rw [z]; exact ow))]; exact h, fun _ _ g _ _ => g, fun b _ _ n z => n (ba b z), rfl⟩
  · rcases get_set f with ⟨rfl, f3⟩ | ⟨nj, f3⟩
    · cases f3
      exact ⟨_, e2, a, rfl, ga, sa, w⟩
    · obtain ⟨v, f4, f5⟩ := r.slots j dv f3
      refine ⟨v, f4, ?_⟩
      cases dv with
      | d x => exact f5
      | src => exact f5
      | own p =>
        obtain ⟨b, rfl, gb, sb, ok⟩ := f5
        have nb : b ≠ a := fun z => nj (r.sep j i p o b f3 e1 f4 (by rw [z]; exact e2))
        exact ⟨b, rfl, gb, sb, ok.keep (Ex.refl G) (upd_ne nb)⟩
      | bor p =>
        obtain ⟨b, rfl, sb, ok⟩ := f5
        have nb : b ≠ a := fun z => r.bor j p b f3 f4 (by rw [z]; exact ow)
        exact ⟨b, rfl, sb, ok.keep (Ex.refl G) (upd_ne nb)⟩
      | see p => exact absurd f3 (r.nse j p)
  · have h1 : ∃ q, sl[j]? = some (some (.own q)) := by
      rcases get_set f1 with ⟨rfl, _⟩ | ⟨_, z⟩
      · exact ⟨_, e1⟩
      · exact ⟨_, z⟩
    have h2 : ∃ q, sl[k]? = some (some (.own q)) := by
      rcases get_set f2 with ⟨rfl, _⟩ | ⟨_, z⟩
      · exact ⟨_, e1⟩
      · exact ⟨_, z⟩
    obtain ⟨q1, h1⟩ := h1
    obtain ⟨q2, h2⟩ := h2
    exact r.sep j k q1 q2 b h1 h2 g1 g2
  · rcases get_set f1 with ⟨_, f3⟩ | ⟨_, f3⟩
    · cases f3
    · exact r.bor j p b f3 f2 (ba b z)
  · rcases get_set f with ⟨_, f3⟩ | ⟨_, f3⟩
    · cases f3
    · exact r.nse j p f3
end
def putD (f : Str) (d : D) : List (Str × D) → List (Str × D)
  | [] => [(f, d)]
  | (g, x) :: r => if g = f then (g, d) :: r else (g, x) :: putD f d r
theorem FAll.put {K : PySem.W.Frag} {G : Hp} {f : Str} {v : V} {d : D} (h : DOk K G v d) : ∀ {vs : List (Str × V)} {fs : List (Str × D)}, FAll K G vs fs → FAll K G (putF f v vs) (putD f d fs)
  | _, _, .nil => .cons h .nil
  | _, _, .cons (x := x) q t => by
    unfold putF putD
    split
    · exact .cons h t
    · exact .cons q (FAll.put h t)
theorem FAll.length {K : PySem.W.Frag} {G : Hp} : ∀ {vs : List (Str × V)} {fs : List (Str × D)}, FAll K G vs fs → vs.length = fs.length
  | _, _, .nil => rfl
  | _, _, .cons _ t => congrArg (· + 1) t.length

/-! ### fields -/
def DV.inst : DV → Option (Addr × List (Str × D))
  | .d (.ins C fs) => some (C, fs)
  | .own (.ins _ C fs) => some (C, fs)
  | .bor (.ins _ C fs) => some (C, fs)
  | .see (.ins _ C fs) => some (C, fs)
  | _ => none
@[irreducible] def fldR (K : PySem.W.Frag) (f : Str) (x : DV) (Q : DV → Prop) : Prop := match x.inst with
  | some (C, fs) => Cls K C ∧ NoAttr K C f ∧ match fs.lookup f with
    | some d => Q (.d d)
    | none => False
  | none => False
section
variable {K : PySem.W.Frag} {G H : Hp} {so : Option Addr} {v : V} {dv : DV} {C : Addr} {fs : List (Str × D)}
theorem VOk.inst (h : HRep K G so H) (w : VOk K G so H v dv) (e : dv.inst = some (C, fs)) : ∃ a dx vs, v = .ref a ∧ H a = some (.ins C dx vs) ∧ FAll K G vs fs := by
  unfold DV.inst at e
  split at e
  · cases e
    cases w with
    | ins g g2 t => exact ⟨_, _, _, rfl, h.ex _ _ g, t⟩
  · cases e; obtain ⟨a, rfl, _, _, _, dx, vs, h1, _, h2⟩ := w; exact ⟨a, dx, vs, rfl, h1, h2⟩
  · cases e; obtain ⟨a, rfl, _, _, dx, vs, h1, _, h2⟩ := w; exact ⟨a, dx, vs, rfl, h1, h2⟩
  · cases e; obtain ⟨a, rfl, _, _, dx, vs, h1, _, h2⟩ := w; exact ⟨a, dx, vs, rfl, h1, h2⟩
  · cases e
theorem sem_fld {f : Str} : UnSem K (fun x H1 Q => ∃ a C dx fs v, x = .ref a ∧ H1 a = some (.ins C dx fs) ∧ Cls K C ∧ NoAttr K C f ∧ fs.lookup f = some v ∧ Q v H1) (fldR K f) := by
  intro G so H x dx Q R h w q hq
  unfold fldR at q
  split at q
  · rename_i C fs e
    obtain ⟨c, n, q⟩ := q
    split at q
    · rename_i d e2
      obtain ⟨a, dd, vs, rfl, h1, h2⟩ := w.inst h e
      obtain ⟨u, e3, e4⟩ := h2.look e2
      exact ⟨a, C, dd, vs, u, rfl, h1, c, n, e3, hq u H G _ (.dat h e4) q⟩
    · exact q.elim
  · exact q.elim
end
section
variable {X : Cx} {W : WX} {e o value : Expr} {f : Str} {pos pos' : Pos} {te : TD} {i : Nat}
theorem de_fld {K : PySem.W.Frag} (he : DE X W e te) (hK : X.K = K := by rfl) (hb : attributeBase e f X.env (eval e X.env) = eval e X.env := by rfl) : DE X W (.Attribute e f pos) (dUn (fldR K f) te) := by
  subst hK
  exact pe_imp (pe_fld he hb) fun _ _ _ h => up_un sem_fld h
/-- name.f = value, the instance held alone -/
def dFldSet (K : PySem.W.Frag) (te : TD) (i : Nat) (f : Str) : TDS := fun E sl => te sl (fun y s1 => match s1[i]?, pubV y with
  | some (some (.own (.ins x C fs))), .d d => Cls K C ∧ NoAttr K C f ∧ fs.length < 1000 ∧ E.nx (s1.set i (some (.own (.ins x C (putD f d fs)))))
  | _, _ => False) E.xc
theorem ds_fld {K : PySem.W.Frag} (ho : PE X o (tVar i)) (hv : DE X W value te) (hK : X.K = K := by rfl) (hs : swapsWith value (some (.Attribute o f pos')) pos.line X.env = pure false := by rfl) : DS X W (.Assign [.Attribute o f pos'] value pos) (dFldSet K te i f) := by
  subst hK
  refine ps_imp (ps_fld ho hv hs) fun D σ H ⟨G, so, sl, E, rep, q, ok⟩ => ?_
  refine ⟨G, so, sl, _, E.xc, rep, q, fun y H1 G1 dy s1 p1 z => ?_, ok.xc.ex⟩
  obtain ⟨G2, p2⟩ := p1.pub
  split at z
  · rename_i x C fs d e1 e2
    obtain ⟨c, n, l, z⟩ := z
    obtain ⟨v, f1, a, rfl, ga, sa, ex, dx, vs, h1, gd, h2⟩ := p2.rep.slots i _ e1
    subst ex
    have wy : DOk X.K G2 y d := by have := p2.val; rw [e2] at this; exact this
    refine ⟨.ref a, f1, a, C, dx, vs, rfl, h1, c, n, by rw [h2.length]; exact l, ?_⟩
    exact ok.nx σ _ G2 _ (p2.toPost.s.trans (PostS.mut (o' := .ins a C (putD f d fs)) p2.rep e1 f1 ⟨rfl, dx, _, upd_same, gd, h2.put wy⟩)) z
  · exact z.elim
/-- name.append(value), the list held alone -/
def dAppend (te : TD) (i : Nat) : TDS := fun E sl => (∃ ds, sl[i]? = some (some (.own (.lst ds)))) ∧ te sl (fun y s1 => match s1[i]?, pubV y with
  | some (some (.own (.lst ds))), .d d => ds.length < szl ∧ E.nx (s1.set i (some (.own (.lst (ds ++ [d])))))
  | _, _ => False) E.xc
theorem ds_append (ho : PE X o (tVar i)) (hv : DE X W value te) (hbase : attributeBase o "append" X.env (eval o X.env) = eval o X.env := by rfl)
    (hfew : ((backTo pos (starEach [value] X.env)).all (fun x => !x.1) && (backToKw pos (keywordEach [] X.env)).all (fun x => x.1.isSome)
      && decide ([value].length + ([] : List Keyword).length + (if ([] : List Keyword).isEmpty then 0 else 1) < 30)) = true := by rfl)
    (hline : (pos'.endLine == pos.line) = true := by rfl) (hs : starEach [value] X.env = (false, eval value X.env) :: starEach [] X.env := by rfl) (hplain : (backTo pos (starEach [] X.env)).any (·.1) = false := by rfl) {spos : Pos}
    (hsw : swapsWith (.Call (.Attribute o "append" pos') [value] [] pos) none spos.line X.env = pure false := by rfl) :
    DS X W (.Expr (.Call (.Attribute o "append" pos') [value] [] pos) spos) (dAppend te i) := by
  refine ps_imp (ps_expr (pe_bm PySem.F.plainAttrs_list PySem.F.slot_list_append PySem.F.type_list_append mt_append ho (pa_cons hv pa_nil hs) hbase hfew hline hs hplain) hsw) fun D σ H ⟨G, so, sl, E, rep, q, ok⟩ => ?_
  obtain ⟨⟨ds0, e0⟩, q⟩ := q
  obtain ⟨v0, f0, a, rfl, ga, sa, vs0, h0, d0⟩ := rep.slots i _ e0
  refine ⟨.ref a, f0, .inl ⟨rfl, _, SqL.of h0⟩, ?_⟩
  refine ⟨G, so, sl, _, E.xc, rep, q, fun y H1 G1 dy s1 p1 z => ?_, ok.xc.ex⟩
  obtain ⟨G2, p2⟩ := p1.pub
  split at z
  · rename_i ds d e1 e2
    obtain ⟨l, z⟩ := z
    obtain ⟨v, f1, b, rfl, gb, sb, vs, h1, h2⟩ := p2.rep.slots i _ e1
    rw [f0] at f1
    cases f1
    have wy : DOk X.K G2 y d := by have := p2.val; rw [e2] at this; exact this
    refine ⟨a, vs, y, rfl, rfl, h1, by rw [h2.length]; exact l, ?_⟩
    exact ok.nx σ _ G2 _ (p2.toPost.s.trans (PostS.mut (o' := .lst (ds ++ [d])) p2.rep e1 f0 ⟨_, upd_same, h2.append (.cons wy .nil)⟩)) z
  · exact z.elim
end
end DL

set_option Elab.async false
set_option linter.all false
set_option maxRecDepth 100000
set_option autoImplicit false
set_option maxHeartbeats 2000000
/-! makers of instances, methods -/
namespace DL
open PySem PySem.Spec PyProof.Rows L2
abbrev SpI := List DV → (List (Str × D) → Prop) → XE' → Prop
structure PostX (K : PySem.W.Frag) (G : Hp) (so : Option Addr) (H : Hp) (x : Addr) (H' G' : Hp) : Prop where
  ex : Ex G G'
  hrep : HRep K G' so H'
  keep : ∀ a o, H a = some o → so ≠ some a → a ≠ x → H' a = some o
  frm : ∀ a, H a ≠ none → G a = none → so ≠ some a → a ≠ x → G' a = none
structure PostI (K : PySem.W.Frag) (G : Hp) (so : Option Addr) (H : Hp) (x C : Addr) (H' G' : Hp) (fs : List (Str × D)) : Prop extends PostX K G so H x H' G' where
  own : OwnOk K G' H' x (.ins x C fs)
  gx : G' x = none
/-- the promise of __init__: the new instance at x is filled -/
def upIn (K : PySem.W.Frag) (C : Addr) (sp : SpI) : Sp := fun vs H Q E => ∃ x vs' G so args QD ED, vs = .ref x :: vs' ∧ HRep K G so H ∧ OwnOk K G H x (.ins x C []) ∧ G x = none ∧ so ≠ some x ∧ VsOk K G so H vs' args ∧ sp args QD ED ∧
  (∀ H' G' fs, PostI K G so H x C H' G' fs → QD fs → Q .non H') ∧ (∀ cls d H' G' fs, PostX K G so H x H' G' → XdOk K G' H' d fs → ED cls fs → E cls d H')
def endI (x C : Addr) (Q : List (Str × D) → Prop) (sl : DSt) : Prop := ∃ fs, sl[0]? = some (some (.own (.ins x C fs))) ∧ Q fs
theorem start_get0 {N : List Str} {d e : DV} {args : List DV} {i : Nat} (h : (startD N (d :: args))[i]? = some (some e)) : (i = 0 ∧ e = d) ∨ ∃ j, i = j + 1 ∧ args[j]? = some e := by
  have z := start_get h
  cases i with
  | zero => left; simp at z; exact ⟨rfl, z.symm⟩
  | succ j => right; exact ⟨j, rfl, by simpa using z⟩
theorem start_at {N : List Str} {vs : List V} {i : Nat} {v : V} (h : vs[i]? = some v) : (L2.start N vs)[i]? = some (some v) := by
  unfold L2.start
  have hi : i < vs.length := (List.getElem?_eq_some_iff.mp h).1
  rw [List.getElem?_append_left (by simpa using hi), List.getElem?_map, h]; rfl
theorem fnI_of {P : Program} {w : World} {K : PySem.W.Frag} {mg : Str → Option Value} {base : Heap} {n qual : Str} {params : Arguments} {body : List Stmt} {scope : Scope} {dvs : List V} {kws : List (Str × V)} {f C : Addr} {fd : FuncData} {N ps : List Str} {k : Nat} {sp : SpI} {t : TDS}
    (F : FunD K n qual params body scope dvs kws f fd) (S : FnScope N ps scope) (len : ∀ args Q E, sp args Q E → args.length + 1 = ps.length) (nsee : ∀ args Q E, sp args Q E → ∀ (i : Nat) (o : OO), args[i]? ≠ some (.see o) ∧ args[i]? ≠ some (.bor o))
    (hd : ∀ (cdv : Value) (A : Around) (outer : List Env) (s : Shared) (H : Hp) (E : XK), Room k (A.deeper (envOfC qual scope s.heap.objs.size f cdv)) → (cxOf (L2.CX P w) P w K mg base N qual scope f cdv A outer s H E).A.guards = some [] →
      DSs (cxOf (L2.CX P w) P w K mg base N qual scope f cdv A outer s H E) (fun cls d _ H' => E cls d H') body t)
    (hr : ∀ args Q E x, sp args Q E → t { nx := endI x C Q, rt := fun _ => False, bk := fun _ => False, ct := fun _ => False, xc := fun cls fs _ => E cls fs } (startD N (.own (.ins x C []) :: args))) : FnR P w K mg base (k + 1) f fd ps (upIn K C sp) := by
  refine fnR_of F S (fun vs H Q E h => ?_) (fun cdv A outer s H vs Q E hroom hg h => ?_)
  · obtain ⟨x, vs', G, so, args, QD, ED, rfl, _, _, _, _, w1, q, _⟩ := h
    rw [List.length_cons, w1.length]; exact len _ _ _ q
  · obtain ⟨x, vs', G, so, args, QD, ED, rfl, hrep, ow, gx, sx, w1, q, hq, hx⟩ := h
    have only : ∀ a, Own (startD N (.own (.ins x C []) :: args)) (L2.start N (.ref x :: vs')) a → a = x := fun a ⟨i, o, e1, e2⟩ => by
      rcases start_get0 e1 with ⟨rfl, _⟩ | ⟨j, rfl, z⟩
      · have : (L2.start N (.ref x :: vs'))[0]? = some (some (.ref x)) := start_at rfl
        rw [this] at e2; cases e2; rfl
      · obtain ⟨_, _, _, n⟩ := w1.get z
        exact absurd rfl (n o)
    have rep : Rep K G so (L2.start N (.ref x :: vs')) H (startD N (.own (.ins x C []) :: args)) := by
      refine ⟨hrep, by unfold startD L2.start; simp [w1.length], fun i d e => ?_, fun i j o o' a e1 e2 _ _ => ?_, fun i o a e1 _ => ?_, fun i o e1 => ?_⟩
      · rcases start_get0 e with ⟨rfl, rfl⟩ | ⟨j, rfl, z⟩
        · exact ⟨.ref x, start_at rfl, x, rfl, gx, sx, ow⟩
        · obtain ⟨v, e1, e2, _⟩ := w1.get z
          exact ⟨v, start_at (by simpa using e1), e2⟩
      · rcases start_get0 e1 with ⟨rfl, _⟩ | ⟨j', rfl, z⟩
        · rcases start_get0 e2 with ⟨rfl, _⟩ | ⟨j', rfl, z⟩
          · rfl
          · obtain ⟨_, _, _, n⟩ := w1.get z
            exact absurd rfl (n o')
        · obtain ⟨_, _, _, n⟩ := w1.get z
          exact absurd rfl (n o)
      · rcases start_get0 e1 with ⟨_, z⟩ | ⟨j', rfl, z⟩
        · cases z
        · exact absurd z (nsee _ _ _ q j' o).2
      · rcases start_get0 e1 with ⟨_, z⟩ | ⟨j', rfl, z⟩
        · cases z
        · exact absurd z (nsee _ _ _ q j' o).1
    refine ⟨_, hd cdv A outer s H E hroom hg, G, so, _, _, rep, hr args QD ED x q, ⟨fun σ' H' G' sl' p z => ?_, fun _ _ _ _ _ z => z.elim, fun _ _ _ _ _ z => z.elim, fun _ _ _ _ _ z => z.elim, fun cls d σ' H' G' fs sl' p z1 z2 => ?_⟩⟩
    · obtain ⟨fs, e, z⟩ := z
      obtain ⟨v, _, a, rfl, ga, _, ok⟩ := p.rep.slots 0 _ e
      have ax : a = x := ok.1
      subst ax
      exact hq H' G' fs ⟨⟨p.ex, p.rep.h, fun b o e s n => p.keep b o e s fun z => n (only b z), fun b n1 g s n => p.frm b n1 g s fun z => n (only b z)⟩, ok, ga⟩ z
    · exact hx cls d H' G' fs ⟨p.ex, p.rep.h, fun b o e s n => p.keep b o e s fun z => n (only b z), fun b n1 g s n => p.frm b n1 g s fun z => n (only b z)⟩ z1 z2
def noZero : List Sel → Bool
  | [] => true
  | .pos 0 :: _ => false
  | _ :: r => noZero r
theorem pick_cong {v v' : V} {vs qs : List V} : ∀ {sel : List Sel}, noZero sel = true → sel.map (pickV (v :: vs) qs) = sel.map (pickV (v' :: vs) qs)
  | [], _ => rfl
  | .pos 0 :: _, h => by cases h
  | .pos (i + 1) :: r, h => by rw [List.map_cons, List.map_cons, pick_cong (sel := r) h]; rfl
  | .kw j :: r, h => by rw [List.map_cons, List.map_cons, pick_cong (sel := r) h]; rfl
  | .dfl a b :: r, h => by rw [List.map_cons, List.map_cons, pick_cong (sel := r) h]; rfl
def dMake (sp : SpI) (C : Addr) (n m : Nat) (sel : List Sel) (ta tk : TDA) : TD := fun sl Q E => ta sl (fun xs s1 => tk s1 (fun ys s2 => xs.length = n ∧ ys.length = m ∧ sp (sel.map (pickD (.d .non :: xs) ys)) (fun fs => Q (.d (.ins C fs)) s2) fun cls fs => E cls fs s2) E) E
section
variable {X : Cx} {W : WX} {k n : Nat} {f C : Addr} {fd : FuncData} {ps ks : List Str} {sp : SpI} {sel : List Sel} {x nm : Str} {p pos kpos : Pos} {e : Expr} {es : List Expr} {kws : List Keyword} {ta tk tk' : TDA} {te : TD}
theorem run_makeG {pins : List (Addr × Obj)} {σ : L2.St} {H G : Hp} {so : Option Addr} {sl : DSt} {s : Shared} {Q : VK} {us ws : List Value} {vs qs : List V} {ds es : List DV} {Q' : DV → DSt → Prop} {E : XP} (M : Mk X.K C f) (F : FnR X.prog X.w X.K X.mg X.base k f fd ps (upIn X.K C sp)) (hr : Room (k + 1) X.A) (hg : X.A.guards = some []) (tk : Takes X W) (hb : Bd X.K fd ps (n + 1) ks (.pos 0 :: sel)) (hz : noZero sel = true)
    (I : Inv X pins σ H s) (rep : Rep X.K G so σ H sl) (r : Vals vs us) (r2 : Vals qs ws) (w : VsOk X.K G so H vs ds) (w2 : VsOk X.K G so H qs es) (l1 : ds.length = n) (l2 : es.length = ks.length)
    (q : sp (sel.map (pickD (.d .non :: ds) es)) (fun fs => Q' (.d (.ins C fs)) sl) fun cls fs => E cls fs sl) (hq : ∀ v H' G' dv sl', PostE X.K G so σ H sl v H' G' dv sl' → Q' dv sl' → Q v H') (hx : XOk X.K W G so σ H sl E) :
    wpAny (model X.prog X.w) X.A (call (.ref C) us (ks.zip ws)) (EP X pins σ Q) X.xe s := by
  have I2 := Inv.made (C := C) I
  generalize hxx : s.heap.objs.size + 1 = x at I2
  have nx : H x = none := by rw [← hxx]; exact I.hok.fresh (Nat.le_succ _)
  have nd : H s.heap.objs.size = none := I.hok.fresh (Nat.le_refl _)
  have ne : s.heap.objs.size ≠ x := by rw [← hxx]; exact Nat.ne_of_lt (Nat.lt_succ_self _)
  generalize hdd : s.heap.objs.size = dx at I2 nd ne
  have nx2 : upd H dx (.own x) x = none := by rw [upd_ne (Ne.symm ne)]; exact nx
  have h0 : HRep X.K (upd G dx (.own x)) so (upd (upd H dx (.own x)) x (.ins C dx [])) := (rep.h.allocG nd).alloc nx2
  have gx : upd G dx (.own x) x = none := by rw [upd_ne (Ne.symm ne)]; exact rep.h.ex.free nx
  have kp : ∀ a o, H a = some o → upd (upd H dx (.own x)) x (.ins C dx []) a = some o := fun a o e => by
    rw [upd_ne (ne_of_none e nx), upd_ne (ne_of_none e nd)]; exact e
  have eg : Ex G (upd G dx (.own x)) := Ex.new (rep.h.ex.free nd)
  have w' : VsOk X.K (upd G dx (.own x)) so (upd (upd H dx (.own x)) x (.ins C dx [])) vs ds := w.keep eg fun a o e _ => kp a o e
  have w2' : VsOk X.K (upd G dx (.own x)) so (upd (upd H dx (.own x)) x (.ins C dx [])) qs es := w2.keep eg fun a o e _ => kp a o e
  obtain ⟨zs, bt, rz⟩ := hb.to _ (.ref x :: us) ws (.ref x :: vs) qs I2.kIn (by rw [List.length_cons, ← r.length, w.length, l1]) (by rw [← r2.length, w2.length, l2]) (.cons rfl r) r2
  have pk : VsOk X.K (upd G dx (.own x)) so (upd (upd H dx (.own x)) x (.ins C dx [])) (sel.map (pickV (.ref x :: vs) qs)) (sel.map (pickD (.d .non :: ds) es)) := by
    rw [pick_cong (v' := .non) hz]
    exact VsOk.pick (.cons (d := .d .non) (show DOk _ _ _ _ from .non) (fun _ e => (nomatch e)) w') w2' sel fun s hs => hb.dok s (List.mem_cons_of_mem _ hs)
  subst hdd
  subst hxx
  refine wpAny_call (make_map (f := f) I.kIn M.makes M.init (beq_iff_eq.mp M.fn) (codeAny_mono (F.run _ X.stack _ _ ⟨Value.ref (s.heap.objs.size + 1) :: us, ks.zip ws⟩ zs _ (fun v H2 => v = .non ∧ Q (.ref (s.heap.objs.size + 1)) H2) (fun cls d H' => W cls d σ H') (hr.make C us (ks.zip ws)) hg
    (I2.env0.make C us (ks.zip ws)) bt rz ⟨s.heap.objs.size + 1, _, _, so, _, _, _, rfl, h0, ⟨rfl, _, [], upd_same, upd_same, .nil⟩, gx, rep.h.there nx, pk, q, fun H' G' fs p z => ⟨rfl, ?_⟩, fun cls d H' G' fs p z1 z2 => ?_⟩) fun r s' hz' => ?_))
  · obtain ⟨_, dx', vs2, e1, e2, e3⟩ := p.own
    have gn : G' (s.heap.objs.size + 1) = none := p.gx
    have pv : PostV X.K G so H (.ref (s.heap.objs.size + 1)) H' (upd G' (s.heap.objs.size + 1) (.ins C dx' vs2)) (.d (.ins C fs)) :=
      ⟨eg.trans (p.ex.trans (Ex.new gn)), hrep_pub p.hrep e1 gn (rep.h.there nx), fun a o e sa => p.keep a o (kp a o e) sa (ne_of_none e nx), fun a n1 g sa => by
        have n2 : a ≠ s.heap.objs.size + 1 := fun z => by rw [z] at n1; exact n1 nx
        have n3 : a ≠ s.heap.objs.size := fun z => by rw [z] at n1; exact n1 nd
        rw [upd_ne n2]
        exact p.frm a (by rw [upd_ne n2, upd_ne n3]; exact n1) (by rw [upd_ne n3]; exact g) sa n2,
        .ins upd_same (Ex.new gn _ _ e2) (e3.mono (Ex.new gn)), fun _ _ e => (nomatch e), fun _ e => (nomatch e)⟩
    exact hq _ H' _ _ sl (pv.slots rep) z
  · have pn : PostV X.K G so H .non H' G' (.d .non) := ⟨eg.trans p.ex, p.hrep, fun a o e sa => p.keep a o (kp a o e) sa (ne_of_none e nx), fun a n1 g sa => by
        have n2 : a ≠ s.heap.objs.size + 1 := fun z => by rw [z] at n1; exact n1 nx
        have n3 : a ≠ s.heap.objs.size := fun z => by rw [z] at n1; exact n1 nd
        exact p.frm a (by rw [upd_ne n2, upd_ne n3]; exact n1) (by rw [upd_ne n3]; exact g) sa n2, .non, fun _ _ e => (nomatch e), fun _ e => (nomatch e)⟩
    exact hx cls d H' G' fs sl (pn.slots rep).toPost z1 z2
  · cases r with
    | error e => exact tk e s' (XE.of_call I2 (fun _ _ _ z => z) hz')
    | ok fl =>
      cases fl with
      | ret u =>
        obtain ⟨v, H', I3, rv, ev, q3⟩ := I2.after hz'
        subst ev
        exact ⟨rv, ⟨V.ref (s.heap.objs.size + 1), H', I3, rfl, q3⟩⟩
      | next => exact False.elim hz'
      | brk => exact False.elim hz'
      | cont => exact False.elim hz'
theorem de_make (M : Mk X.K C f) (F : FnR X.prog X.w X.K X.mg X.base k f fd ps (upIn X.K C sp)) (hr : Room (k + 1) X.A) (hgd : X.A.guards = some []) (tk : Takes X W) (hb : Bd X.K fd ps (n + 1) [] (.pos 0 :: sel)) (hz : noZero sel = true) (hg : Gl X x) (hm : X.mg x = some (.ref C))
    (ha : DA X W (e :: es) ta) (hdb : (x == ("__debug__" : Str)) = false := by decide) (he : starEach (e :: es) X.env = (false, eval e X.env) :: starEach es X.env := by rfl) (hpl : (backTo pos (starEach es X.env)).any (·.1) = false := by rfl) :
    DE X W (.Call (.Name x p) (e :: es) [] pos) (dMake sp C n 0 sel ta dNil) := by
  refine ⟨fun pins s σ H Q I ⟨G, so, sl, Q', E, rep, q, hq, hx⟩ => wpAny_Call_Name_kw (ld_glob I hg hm ?_ hdb)⟩
  refine PySem.W.callWith_K (h₀ := X.base) I.ok.mod.kin M.kp (thn (ha.run pos pins s σ H (fun vs H1 => ∃ G1 ds s1, Post X.K G so σ H sl H1 G1 s1 ∧ VsOk X.K G1 so H1 vs ds ∧ ds.length = n ∧ sp (sel.map (pickD (.d .non :: ds) [])) (fun fs => Q' (.d (.ins C fs)) s1) fun cls fs => E cls fs s1) I
    ⟨G, so, sl, _, E, rep, q, fun vs H1 G1 ds s1 p1 w z => ⟨G1, ds, s1, p1, w, z.1, z.2.2⟩, hx⟩) fun us s1 ⟨vs, H1, I1, r, G1, ds, sl1, p1, w, l1, z⟩ => ⟨I1.kIn, ?_⟩) he hpl
  exact run_makeG (ws := []) (qs := []) (es := []) M F hr hgd tk hb hz I1 p1.rep r .nil w .nil l1 rfl z (fun v H' G' dv sl' pe z' => hq v H' G' dv sl' (p1.thenE pe) z') (hx.step p1)
theorem de_makeK (M : Mk X.K C f) (F : FnR X.prog X.w X.K X.mg X.base k f fd ps (upIn X.K C sp)) (hr : Room (k + 1) X.A) (hgd : X.A.guards = some []) (tk : Takes X W) (hb : Bd X.K fd ps (n + 1) ks (.pos 0 :: sel)) (hz : noZero sel = true) (hg : Gl X x) (hm : X.mg x = some (.ref C))
    (ha : DA X W (e :: es) ta) (hkw : DK X W kws tk') (hall : (backToKw pos (keywordEach kws X.env)).all (·.1.isSome) = true := by rfl) (hks : (backToKw pos (keywordEach kws X.env)).filterMap (·.1) = ks := by rfl) (hdb : (x == ("__debug__" : Str)) = false := by decide)
    (he : starEach (e :: es) X.env = (false, eval e X.env) :: starEach es X.env := by rfl) (hpl : ((backTo pos (starEach (e :: es) X.env)).any (·.1) || (backToKw pos (keywordEach kws X.env)).any (·.1.isNone)) = false := by rfl) :
    DE X W (.Call (.Name x p) (e :: es) kws pos) (dMake sp C n ks.length sel ta tk') := by
  refine ⟨fun pins s σ H Q I ⟨G, so, sl, Q', E, rep, q, hq, hx⟩ => wpAny_Call_Name_kw (ld_glob I hg hm ?_ hdb)⟩
  refine PySem.W.callWith_KW (h₀ := X.base) I.ok.mod.kin M.kp hall (thn (ha.run pos pins s σ H (fun vs H1 => ∃ G1 ds s1, Post X.K G so σ H sl H1 G1 s1 ∧ VsOk X.K G1 so H1 vs ds ∧ tk' s1 (fun ys s2 => ds.length = n ∧ ys.length = ks.length ∧ sp (sel.map (pickD (.d .non :: ds) ys)) (fun fs => Q' (.d (.ins C fs)) s2) fun cls fs => E cls fs s2) E) I
    ⟨G, so, sl, _, E, rep, q, fun vs H1 G1 ds s1 p1 w z => ⟨G1, ds, s1, p1, w, z⟩, hx⟩) fun us s1 ⟨vs, H1, I1, r, G1, ds, sl1, p1, w, z⟩ => ?_) hpl he
  refine thn (hkw.run pos pins s1 σ H1 (fun qs H2 => ∃ G2 es s2, Post X.K G1 so σ H1 sl1 H2 G2 s2 ∧ VsOk X.K G2 so H2 qs es ∧ ds.length = n ∧ es.length = ks.length ∧ sp (sel.map (pickD (.d .non :: ds) es)) (fun fs => Q' (.d (.ins C fs)) s2) fun cls fs => E cls fs s2) I1
    ⟨G1, so, sl1, _, E, p1.rep, z, fun qs H2 G2 es s2 p2 w2 z => ⟨G2, es, s2, p2, w2, z⟩, hx.step p1⟩) fun ws s2 ⟨qs, H2, I2, r2, G2, es, sl2, p2, w2, l1, l2, z⟩ => ⟨I2.kIn, ?_⟩
  rw [hks]
  exact run_makeG M F hr hgd tk hb hz I2 p2.rep r r2 (w.keep p2.ex p2.keep) w2 l1 l2 z (fun v H' G' dv sl' pe z' => hq v H' G' dv sl' ((p1.trans p2).thenE pe) z') (hx.step (p1.trans p2))
theorem de_makeK0 (M : Mk X.K C f) (F : FnR X.prog X.w X.K X.mg X.base k f fd ps (upIn X.K C sp)) (hr : Room (k + 1) X.A) (hgd : X.A.guards = some []) (tk : Takes X W) (hb : Bd X.K fd ps (0 + 1) ks (.pos 0 :: sel)) (hz : noZero sel = true) (hg : Gl X x) (hm : X.mg x = some (.ref C))
    (hkw : DK X W kws tk') (hall : (backToKw pos (keywordEach kws X.env)).all (·.1.isSome) = true := by rfl) (hks : (backToKw pos (keywordEach kws X.env)).filterMap (·.1) = ks := by rfl) (hdb : (x == ("__debug__" : Str)) = false := by decide)
    (hpl : ((backTo pos (starEach [] X.env)).any (·.1) || (backToKw pos (keywordEach kws X.env)).any (·.1.isNone)) = false := by rfl) :
    DE X W (.Call (.Name x p) [] kws pos) (dMake sp C 0 ks.length sel dNil tk') := by
  refine ⟨fun pins s σ H Q I ⟨G, so, sl, Q', E, rep, q, hq, hx⟩ => wpAny_Call_Name_kw (ld_glob I hg hm ?_ hdb)⟩
  refine PySem.W.callWith_KW0 (h₀ := X.base) I.ok.mod.kin M.kp hall ?_ hpl
  refine thn (hkw.run pos pins s σ H (fun qs H2 => ∃ G2 es s2, Post X.K G so σ H sl H2 G2 s2 ∧ VsOk X.K G2 so H2 qs es ∧ es.length = ks.length ∧ sp (sel.map (pickD [.d .non] es)) (fun fs => Q' (.d (.ins C fs)) s2) fun cls fs => E cls fs s2) I
    ⟨G, so, sl, _, E, rep, q, fun qs H2 G2 es s2 p2 w2 z => ⟨G2, es, s2, p2, w2, z.2.1, z.2.2⟩, hx⟩) fun ws s2 ⟨qs, H2, I2, r2, G2, es, sl2, p2, w2, l2, z⟩ => ⟨I2.kIn, ?_⟩
  rw [hks]
  exact run_makeG (us := []) (vs := []) (ds := []) M F hr hgd tk hb hz I2 p2.rep .nil r2 .nil w2 rfl l2 z (fun v H' G' dv sl' pe z' => hq v H' G' dv sl' (p2.thenE pe) z') (hx.step p2)
theorem de_make0 (M : Mk X.K C f) (F : FnR X.prog X.w X.K X.mg X.base k f fd ps (upIn X.K C sp)) (hr : Room (k + 1) X.A) (hgd : X.A.guards = some []) (tk : Takes X W) (hb : Bd X.K fd ps (0 + 1) [] (.pos 0 :: sel)) (hz : noZero sel = true) (hg : Gl X x) (hm : X.mg x = some (.ref C))
    (hdb : (x == ("__debug__" : Str)) = false := by decide) : DE X W (.Call (.Name x p) [] [] pos) (dMake sp C 0 0 sel dNil dNil) := by
  refine ⟨fun pins s σ H Q I ⟨G, so, sl, Q', E, rep, q, hq, hx⟩ => wpAny_Call_Name_kw (ld_glob I hg hm ?_ hdb)⟩
  exact PySem.W.callWith_K0 I.kIn M.kp (run_makeG (us := []) (vs := []) (ds := []) (ws := []) (qs := []) (es := []) M F hr hgd tk hb hz I rep .nil .nil .nil .nil rfl rfl q.2.2 hq hx)
end

/-! ### methods -/
def dMeth (sp : SpD) (C : Addr) (m : Str) (n l : Nat) (sel : List Sel) (to : TD) (ta tk : TDA) : TD := fun sl Q E => to sl (fun x s0 => match pubV x with
  | .d (.ins D fs) => D = C ∧ fs.lookup m = none ∧ ta s0 (fun xs s1 => tk s1 (fun ys s2 => xs.length = n ∧ ys.length = l ∧ sp (sel.map (pickD (.d (.ins D fs) :: xs) ys)) (fun v => Q v s2) fun cls fs => E cls fs s2) E) E
  | _ => False) E
section
variable {X : Cx} {W : WX} {k n : Nat} {f C : Addr} {fd : FuncData} {ps ks : List Str} {sp : SpD} {sel : List Sel} {m nm : Str} {p pos apos kpos : Pos} {o e : Expr} {es : List Expr} {kws : List Keyword} {ta tk tk' : TDA} {to te : TD} {pl : Sem Bool}
theorem de_meth (he : DE X W o to) (c : Cls X.K C) (hm : Meth X.K C m f) (F : FnG X.prog X.w X.K X.mg X.base k f fd ps sp) (hr : Room k X.A) (hgd : X.A.guards = some []) (tk : Takes X W) (hb : Bd X.K fd ps (n + 1) [] sel) (ha : DA X W (e :: es) ta)
    (hst : starEach (e :: es) X.env = (false, eval e X.env) :: starEach es X.env := by rfl) (hpl : (backTo pos (starEach es X.env)).any (·.1) = false := by rfl)
    (ht : eval (.Call (.Attribute o m apos) (e :: es) [] pos) X.env = (do
      let ov ← eval o X.env
      standAt apos.atName
      let (f, first) ← holding [ov] (getMethod ov m pl)
      callWith pos f first (backTo pos (starEach (e :: es) X.env)) (backToKw pos (keywordEach [] X.env))) := by rfl) :
    DE X W (.Call (.Attribute o m apos) (e :: es) [] pos) (dMeth sp C m n 0 sel to ta dNil) := by
  refine ⟨fun pins s σ H Q I ⟨G, so, sl, Q', E, rep, q, hq, hx⟩ => ?_⟩
  refine PySem.W.methodCall_KW (pl := pl) (thn (he.run pins s σ H (fun v H1 => ∃ G1 s1 fs, PostE X.K G so σ H sl v H1 G1 (.d (.ins C fs)) s1 ∧ fs.lookup m = none ∧ ta s1 (fun xs s2 => dNil s2 (fun ys s3 => xs.length = n ∧ ys.length = 0 ∧ sp (sel.map (pickD (.d (.ins C fs) :: xs) ys)) (fun v => Q' v s3) fun cls fs => E cls fs s3) E) E) I
    ⟨G, so, sl, _, E, rep, q, fun v H1 G1 dv s1 p1 z => ?_, hx⟩) fun u s1 ⟨x, H1, I1, rx, G1, sl1, fs, p1, l, z⟩ => ?_) ht
  · obtain ⟨G2, p2⟩ := p1.pub
    split at z
    · rename_i D fs ed
      obtain ⟨rfl, l, z⟩ := z
      exact ⟨G2, s1, fs, by rw [← ed]; exact p2, l, z⟩
    · exact z.elim
  · obtain ⟨a, dx, vs, ex, ea, fa⟩ := VOk.inst p1.rep.h p1.val rfl
    subst ex
    obtain rfl : u = Value.ref a := rx
    refine getmeth_ok I1 ea c hm (fa.lookN l) ?_
    refine PySem.W.callWith_K (first := [.ref a]) (h₀ := X.base) I.ok.mod.kin hm.kp (thn (ha.run pos pins s1 σ H1 (fun vs H2 => ∃ G2 ds s2, Post X.K G1 so σ H1 sl1 H2 G2 s2 ∧ VsOk X.K G2 so H2 vs ds ∧ ds.length = n ∧ sp (sel.map (pickD (.d (.ins C fs) :: ds) [])) (fun v => Q' v s2) fun cls fs => E cls fs s2) I1
      ⟨G1, so, sl1, _, E, p1.rep, z, fun vs H2 G2 ds s2 p2 w z => ⟨G2, ds, s2, p2, w, z.1, z.2.2⟩, hx.step p1.toPost⟩) fun us s2 ⟨vs2, H2, I2, r, G2, ds, sl2, p2, w, l1, z⟩ => ⟨I2.kIn, ?_⟩) hst hpl
    exact run_fnG (us := .ref a :: us) (vs := .ref a :: vs2) (ds := .d (.ins C fs) :: ds) (ws := []) (qs := []) (es := []) F hr hgd tk hb I2 p2.rep (.cons rfl r) .nil (.cons (p1.over p2) (fun _ e => (nomatch e)) w) .nil (by rw [List.length_cons, l1]) rfl z (fun v H' G' dv sl' pe z' => hq v H' G' dv sl' ((p1.toPost.trans p2).thenE pe) z') (hx.step (p1.toPost.trans p2))
theorem de_meth0 (he : DE X W o to) (c : Cls X.K C) (hm : Meth X.K C m f) (F : FnG X.prog X.w X.K X.mg X.base k f fd ps sp) (hr : Room k X.A) (hgd : X.A.guards = some []) (tk : Takes X W) (hb : Bd X.K fd ps (0 + 1) [] sel)
    (ht : eval (.Call (.Attribute o m apos) [] [] pos) X.env = (do
      let ov ← eval o X.env
      standAt apos.atName
      let (f, first) ← holding [ov] (getMethod ov m pl)
      callWith pos f first (backTo pos (starEach [] X.env)) (backToKw pos (keywordEach [] X.env))) := by rfl) :
    DE X W (.Call (.Attribute o m apos) [] [] pos) (dMeth sp C m 0 0 sel to dNil dNil) := by
  refine ⟨fun pins s σ H Q I ⟨G, so, sl, Q', E, rep, q, hq, hx⟩ => ?_⟩
  refine PySem.W.methodCall_KW (pl := pl) (thn (he.run pins s σ H (fun v H1 => ∃ G1 s1 fs, PostE X.K G so σ H sl v H1 G1 (.d (.ins C fs)) s1 ∧ fs.lookup m = none ∧ sp (sel.map (pickD [.d (.ins C fs)] [])) (fun v => Q' v s1) fun cls fs => E cls fs s1) I
    ⟨G, so, sl, _, E, rep, q, fun v H1 G1 dv s1 p1 z => ?_, hx⟩) fun u s1 ⟨x, H1, I1, rx, G1, sl1, fs, p1, l, z⟩ => ?_) ht
  · obtain ⟨G2, p2⟩ := p1.pub
    split at z
    · rename_i D fs ed
      obtain ⟨rfl, l, z⟩ := z
      exact ⟨G2, s1, fs, by rw [← ed]; exact p2, l, z.2.2⟩
    · exact z.elim
  · obtain ⟨a, dx, vs, ex, ea, fa⟩ := VOk.inst p1.rep.h p1.val rfl
    subst ex
    obtain rfl : u = Value.ref a := rx
    refine getmeth_ok I1 ea c hm (fa.lookN l) ?_
    exact PySem.W.callWith_K0 (first := [.ref a]) I1.kIn hm.kp (run_fnG (us := [.ref a]) (vs := [.ref a]) (ds := [.d (.ins C fs)]) (ws := []) (qs := []) (es := []) F hr hgd tk hb I1 p1.rep (.cons rfl .nil) .nil (.cons p1.val (fun _ e => (nomatch e)) .nil) .nil rfl rfl z (fun v H' G' dv sl' pe z' => hq v H' G' dv sl' (p1.toPost.thenE pe) z') (hx.step p1.toPost))
theorem de_methK (he : DE X W o to) (c : Cls X.K C) (hm : Meth X.K C m f) (F : FnG X.prog X.w X.K X.mg X.base k f fd ps sp) (hr : Room k X.A) (hgd : X.A.guards = some []) (tk : Takes X W) (hb : Bd X.K fd ps (n + 1) ks sel) (ha : DA X W (e :: es) ta) (hkw : DK X W kws tk')
    (hall : (backToKw pos (keywordEach kws X.env)).all (·.1.isSome) = true := by rfl) (hks : (backToKw pos (keywordEach kws X.env)).filterMap (·.1) = ks := by rfl)
    (hst : starEach (e :: es) X.env = (false, eval e X.env) :: starEach es X.env := by rfl) (hpl : ((backTo pos (starEach (e :: es) X.env)).any (·.1) || (backToKw pos (keywordEach kws X.env)).any (·.1.isNone)) = false := by rfl)
    (ht : eval (.Call (.Attribute o m apos) (e :: es) kws pos) X.env = (do
      let ov ← eval o X.env
      standAt apos.atName
      let (f, first) ← holding [ov] (getMethod ov m pl)
      callWith pos f first (backTo pos (starEach (e :: es) X.env)) (backToKw pos (keywordEach kws X.env))) := by rfl) :
    DE X W (.Call (.Attribute o m apos) (e :: es) kws pos) (dMeth sp C m n ks.length sel to ta tk') := by
  refine ⟨fun pins s σ H Q I ⟨G, so, sl, Q', E, rep, q, hq, hx⟩ => ?_⟩
  refine PySem.W.methodCall_KW (pl := pl) (thn (he.run pins s σ H (fun v H1 => ∃ G1 s1 fs, PostE X.K G so σ H sl v H1 G1 (.d (.ins C fs)) s1 ∧ fs.lookup m = none ∧ ta s1 (fun xs s2 => tk' s2 (fun ys s3 => xs.length = n ∧ ys.length = ks.length ∧ sp (sel.map (pickD (.d (.ins C fs) :: xs) ys)) (fun v => Q' v s3) fun cls fs => E cls fs s3) E) E) I
    ⟨G, so, sl, _, E, rep, q, fun v H1 G1 dv s1 p1 z => ?_, hx⟩) fun u s1 ⟨x, H1, I1, rx, G1, sl1, fs, p1, l, z⟩ => ?_) ht
  · obtain ⟨G2, p2⟩ := p1.pub
    split at z
    · rename_i D fs ed
      obtain ⟨rfl, l, z⟩ := z
      exact ⟨G2, s1, fs, by rw [← ed]; exact p2, l, z⟩
    · exact z.elim
  · obtain ⟨a, dx, vs, ex, ea, fa⟩ := VOk.inst p1.rep.h p1.val rfl
    subst ex
    obtain rfl : u = Value.ref a := rx
    refine getmeth_ok I1 ea c hm (fa.lookN l) ?_
    refine PySem.W.callWith_KW (first := [.ref a]) (h₀ := X.base) I.ok.mod.kin hm.kp hall (thn (ha.run pos pins s1 σ H1 (fun vs H2 => ∃ G2 ds s2, Post X.K G1 so σ H1 sl1 H2 G2 s2 ∧ VsOk X.K G2 so H2 vs ds ∧ tk' s2 (fun ys s3 => ds.length = n ∧ ys.length = ks.length ∧ sp (sel.map (pickD (.d (.ins C fs) :: ds) ys)) (fun v => Q' v s3) fun cls fs => E cls fs s3) E) I1
      ⟨G1, so, sl1, _, E, p1.rep, z, fun vs H2 G2 ds s2 p2 w z => ⟨G2, ds, s2, p2, w, z⟩, hx.step p1.toPost⟩) fun us s2 ⟨vs2, H2, I2, r, G2, ds, sl2, p2, w, z⟩ => ?_) hpl hst
    refine thn (hkw.run pos pins s2 σ H2 (fun qs H3 => ∃ G3 es s3, Post X.K G2 so σ H2 sl2 H3 G3 s3 ∧ VsOk X.K G3 so H3 qs es ∧ ds.length = n ∧ es.length = ks.length ∧ sp (sel.map (pickD (.d (.ins C fs) :: ds) es)) (fun v => Q' v s3) fun cls fs => E cls fs s3) I2
      ⟨G2, so, sl2, _, E, p2.rep, z, fun qs H3 G3 es s3 p3 w3 z => ⟨G3, es, s3, p3, w3, z⟩, (hx.step p1.toPost).step p2⟩) fun ws s3 ⟨qs, H3, I3, r2, G3, es, sl3, p3, w3, l1, l2, z⟩ => ⟨I3.kIn, ?_⟩
    rw [hks]
    have p123 := (p1.toPost.trans p2).trans p3
    exact run_fnG (us := .ref a :: us) (vs := .ref a :: vs2) (ds := .d (.ins C fs) :: ds) F hr hgd tk hb I3 p3.rep (.cons rfl r) r2 (.cons (p1.over (p2.trans p3)) (fun _ e => (nomatch e)) (w.keep p3.ex p3.keep)) w3 (by rw [List.length_cons, l1]) l2 z (fun v H' G' dv sl' pe z' => hq v H' G' dv sl' (p123.thenE pe) z') (hx.step p123)
theorem de_methK0 (he : DE X W o to) (c : Cls X.K C) (hm : Meth X.K C m f) (F : FnG X.prog X.w X.K X.mg X.base k f fd ps sp) (hr : Room k X.A) (hgd : X.A.guards = some []) (tk : Takes X W) (hb : Bd X.K fd ps (0 + 1) ks sel) (hkw : DK X W kws tk')
    (hall : (backToKw pos (keywordEach kws X.env)).all (·.1.isSome) = true := by rfl) (hks : (backToKw pos (keywordEach kws X.env)).filterMap (·.1) = ks := by rfl)
    (hpl : ((backTo pos (starEach [] X.env)).any (·.1) || (backToKw pos (keywordEach kws X.env)).any (·.1.isNone)) = false := by rfl)
    (ht : eval (.Call (.Attribute o m apos) [] kws pos) X.env = (do
      let ov ← eval o X.env
      standAt apos.atName
      let (f, first) ← holding [ov] (getMethod ov m pl)
      callWith pos f first (backTo pos (starEach [] X.env)) (backToKw pos (keywordEach kws X.env))) := by rfl) :
    DE X W (.Call (.Attribute o m apos) [] kws pos) (dMeth sp C m 0 ks.length sel to dNil tk') := by
  refine ⟨fun pins s σ H Q I ⟨G, so, sl, Q', E, rep, q, hq, hx⟩ => ?_⟩
  refine PySem.W.methodCall_KW (pl := pl) (thn (he.run pins s σ H (fun v H1 => ∃ G1 s1 fs, PostE X.K G so σ H sl v H1 G1 (.d (.ins C fs)) s1 ∧ fs.lookup m = none ∧ tk' s1 (fun ys s3 => ([] : List DV).length = 0 ∧ ys.length = ks.length ∧ sp (sel.map (pickD [.d (.ins C fs)] ys)) (fun v => Q' v s3) fun cls fs => E cls fs s3) E) I
    ⟨G, so, sl, _, E, rep, q, fun v H1 G1 dv s1 p1 z => ?_, hx⟩) fun u s1 ⟨x, H1, I1, rx, G1, sl1, fs, p1, l, z⟩ => ?_) ht
  · obtain ⟨G2, p2⟩ := p1.pub
    split at z
    · rename_i D fs ed
      obtain ⟨rfl, l, z⟩ := z
      exact ⟨G2, s1, fs, by rw [← ed]; exact p2, l, z⟩
    · exact z.elim
  · obtain ⟨a, dx, vs, ex, ea, fa⟩ := VOk.inst p1.rep.h p1.val rfl
    subst ex
    obtain rfl : u = Value.ref a := rx
    refine getmeth_ok I1 ea c hm (fa.lookN l) ?_
    refine PySem.W.callWith_KW0 (first := [.ref a]) (h₀ := X.base) I.ok.mod.kin hm.kp hall ?_ hpl
    refine thn (hkw.run pos pins s1 σ H1 (fun qs H3 => ∃ G3 es s3, Post X.K G1 so σ H1 sl1 H3 G3 s3 ∧ VsOk X.K G3 so H3 qs es ∧ es.length = ks.length ∧ sp (sel.map (pickD [.d (.ins C fs)] es)) (fun v => Q' v s3) fun cls fs => E cls fs s3) I1
      ⟨G1, so, sl1, _, E, p1.rep, z, fun qs H3 G3 es s3 p3 w3 z => ⟨G3, es, s3, p3, w3, z.2.1, z.2.2⟩, hx.step p1.toPost⟩) fun ws s3 ⟨qs, H3, I3, r2, G3, es, sl3, p3, w3, l2, z⟩ => ⟨I3.kIn, ?_⟩
    rw [hks]
    exact run_fnG (us := [.ref a]) (vs := [.ref a]) (ds := [.d (.ins C fs)]) F hr hgd tk hb I3 p3.rep (.cons rfl .nil) r2 (.cons (p1.over p3) (fun _ e => (nomatch e)) .nil) w3 rfl l2 z (fun v H' G' dv sl' pe z' => hq v H' G' dv sl' ((p1.toPost.trans p3).thenE pe) z') (hx.step (p1.toPost.trans p3))
end
end DL

set_option Elab.async false
set_option linter.all false
set_option maxRecDepth 100000
set_option autoImplicit false
set_option maxHeartbeats 2000000
/-! products, two names at once, isinstance of several types, is, keyword-only parameters -/
namespace DL
open PySem PySem.Spec PyProof.Rows L2
/-! ### * -/
section
variable {X : Cx} {K : PySem.W.Frag} {W : WX} {a b : Expr} {ta tb : TD} {pos : Pos}
def rMulU : R2 := fun x y H Q => (rI CMulW fun i j => .int (i * j)) x y H Q ∨ rRep x y H Q
theorem op_mulU : OpR X (binaryOp .Mult) rMulU := fun pins s σ H x y v u Q I rx ry h => h.elim (fun h => op_mulW pins s σ H x y v u Q I rx ry h) fun h => op_rep pins s σ H x y v u Q I rx ry h
theorem DAll.rep {K : PySem.W.Frag} {G : Hp} {vs : List V} {ds : List D} (h : DAll K G vs ds) : ∀ n : Nat, DAll K G (List.replicate n vs).flatten (List.replicate n ds).flatten
  | 0 => .nil
  | n + 1 => by rw [List.replicate_succ, List.replicate_succ, List.flatten_cons, List.flatten_cons]; exact h.append (h.rep n)
theorem sem_mul : OpSem K rMulU mulR := by
  intro G so H x y dx dy Q R h w1 w2 q k
  unfold mulR at q
  split at q
  · cases w1; cases w2
    exact .inl ⟨_, _, rfl, rfl, q.1, k _ H G _ (.dat h (.int _)) q.2⟩
  · rename_i c _
    cases w2
    split at q
    · rename_i ds e
      obtain ⟨l, vs, rfl, h1, h2⟩ := w1.list h e
      obtain ⟨q1, q2, q3, q4⟩ := q
      exact .inr ⟨l, c, vs, rfl, rfl, h1, q1, q2, by rw [h2.length]; exact q3, fun p np => k _ _ G _ (.list h np (h2.rep _)) q4⟩
    · exact q.elim
  · exact q.elim
theorem de_mul (ha : DE X W a ta) (hb : DE X W b tb) : DE X W (.BinOp a .Mult b pos) (dOp mulR ta tb) := de_op op_mulU sem_mul ha hb
end
theorem l_mulI {Q : DV → Prop} {i j : Int} (h : CMulW i j) (q : Q (.d (.int (i * j)))) : mulR (.d (.int i)) (.d (.int j)) Q := by unfold mulR; exact ⟨h, q⟩
theorem l_mulL {Q : DV → Prop} {v : DV} {ds : List D} {k : Int} (hv : v.items = some ds) (h1 : -(2 ^ 63) ≤ k) (h2 : k < 2 ^ 63) (h3 : ds.length * k.toNat ≤ szl) (q : Q (.own (.lst (List.replicate k.toNat ds).flatten))) : mulR v (.d (.int k)) Q := by
  rcases items_cases hv with e | e | e | e <;> subst e <;> (unfold mulR; dsimp only [DV.items]; exact ⟨h1, h2, h3, q⟩)
/-! ### is, with a bool or None at the right -/
@[irreducible] def isBR (neg : Bool) : DV → DV → (DV → Prop) → Prop
  | .d (.bl a), .d (.bl b), Q => Q (.d (.bl (if neg then !decide (a = b) else decide (a = b))))
  | _, _, _ => False
section
variable {X : Cx} {K : PySem.W.Frag}
theorem sem_isB : OpSem K (fun x y H Q => ∃ a b, x = .bl a ∧ y = .bl b ∧ Q (.bl (decide (a = b))) H) (isBR false) := by
  intro G so H x y dx dy Q R h w1 w2 q k
  unfold isBR at q
  split at q
  · cases w1; cases w2
    exact ⟨_, _, rfl, rfl, k _ H G _ (.dat h (.bl _)) q⟩
  · exact q.elim
theorem sem_isnotB : OpSem K (fun x y H Q => ∃ a b, x = .bl a ∧ y = .bl b ∧ Q (.bl (!decide (a = b))) H) (isBR true) := by
  intro G so H x y dx dy Q R h w1 w2 q k
  unfold isBR at q
  split at q
  · cases w1; cases w2
    exact ⟨_, _, rfl, rfl, k _ H G _ (.dat h (.bl _)) q⟩
  · exact q.elim
end
theorem l_isB {Q : DV → Prop} {n a b : Bool} (q : Q (.d (.bl (if n then !decide (a = b) else decide (a = b))))) : isBR n (.d (.bl a)) (.d (.bl b)) Q := by unfold isBR; exact q
/-! ### two names at once -/
def dPar (i j : Nat) (ta : TDA) : TDS := fun E sl => ta sl (fun vs s1 => match vs with
  | [.d x, .d y] => E.nx ((s1.set i (some (.d x))).set j (some (.d y)))
  | _ => False) E.xc
theorem PostE.ofD {K : PySem.W.Frag} {G G1 : Hp} {so : Option Addr} {σ : L2.St} {H H1 : Hp} {sl s1 : DSt} {v : V} {x : D} (p : Post K G so σ H sl H1 G1 s1) (w : DOk K G1 v x) : PostE K G so σ H sl v H1 G1 (.d x) s1 :=
  { p with val := w, new := fun _ _ e => (nomatch e), sepv := fun _ _ e => e.elim (fun e => (nomatch e)) fun e => (nomatch e), nbs := fun _ _ _ _ e => (nomatch e) }
section
variable {X : Cx} {W : WX} {pos : Pos} {i j : Nat} {x y : Str} {a b : Expr} {ta : TDA}
theorem ds_par {px py pt kt k2 pt2} (hc : X.calm = true) (hN : X.N.Nodup) (hi : X.N[i]? = some x) (hj : X.N[j]? = some y) (hij : i ≠ j)
    (hx : X.env.scope.names.lookup x = some .local) (hy : X.env.scope.names.lookup y = some .local) (ha : DA X W [a, b] ta)
    (hw : swappedStores [.Tuple [.Name x px, .Name y py] kt pt] (.Tuple [a, b] k2 pt2) X.env = pure (some [x, y]))
    (hs : swapsWithSole [.Tuple [.Name x px, .Name y py] kt pt] (.Tuple [a, b] k2 pt2) pos.line X.env = pure false := by rfl) :
    DS X W (.Assign [.Tuple [.Name x px, .Name y py] kt pt] (.Tuple [a, b] k2 pt2) pos) (dPar i j ta) := by
  refine ps_len (ps_par hc hN hi hj hij hx hy ha hw hs) fun D σ H hl ⟨G, so, sl, E, rep, q, ok⟩ => ?_
  have li : i < σ.length := by rw [hl]; exact (List.getElem?_eq_some_iff.mp hi).1
  have lj : j < σ.length := by rw [hl]; exact (List.getElem?_eq_some_iff.mp hj).1
  refine ⟨G, so, sl, _, E.xc, rep, q, fun vs H1 G1 ds s1 p w z => ?_, ok.xc.ex⟩
  split at z
  · rename_i d1 d2
    obtain ⟨v1, v2, rfl, w1, w2, _⟩ := w.v2
    have n1 : ∀ o, DV.d d1 ≠ .see o := fun _ e => (nomatch e)
    have n2 : ∀ o, DV.d d2 ≠ .see o := fun _ e => (nomatch e)
    have p1 := (PostE.ofD (x := d1) p w1).set li n1
    have p2 := (PostE.ofD (x := d2) (Post.refl p1.rep) w2).set (i := j) (by rw [List.length_set]; exact lj) n2
    exact ⟨v1, v2, rfl, ok.nx _ H1 G1 _ (p1.trans p2) z⟩
  · exact z.elim
end
theorem par_cut {ta : TDA} {u : TDS} {E : EndsD} {sl s' : DSt} {i j : Nat} (x y : D) (h : ∀ Q : List DV → DSt → Prop, Q [.d x, .d y] s' → ta sl Q E.xc) (q : u E ((s'.set i (some (.d x))).set j (some (.d y)))) : dSeq (dPar i j ta) u E sl := h _ q
theorem par_cutP {ta : TDA} {u : TDS} {E : EndsD} {sl s' : DSt} {i j : Nat} (R : D → D → Prop) (h : ∀ Q : List DV → DSt → Prop, (∀ x y, R x y → Q [.d x, .d y] s') → ta sl Q E.xc) (q : ∀ x y, R x y → u E ((s'.set i (some (.d x))).set j (some (.d y)))) : dSeq (dPar i j ta) u E sl := h _ fun x y r => q x y r
/-! ### isinstance(x, (T, U, ..)) -/
def tysD : List D → Option (List String)
  | [] => some []
  | .raw (.ty T) :: r => (tysD r).map (T :: ·)
  | _ => none
def kitBs (t : String) : List String → Option Bool
  | [] => some false
  | T :: r => match kitB t T with
    | some true => some true
    | some false => kitBs t r
    | none => none
def rIsiS (K : PySem.W.Frag) : List V → Hp → VK → Prop := fun xs H Q => ∃ (x : V) (tp : Addr) (cs : List V) (t : Value) (us : List Value) (b : Bool), xs = [x, .ref tp] ∧ SqT K H tp cs ∧ Paired ClsV cs us ∧ TyX K H x t ∧ PySem.W.kitAny K t us = some b ∧ Q (.bl b) H
theorem call_isiS {X : Cx} : CallR X (.builtin "isinstance") (rIsiS X.K) := by
  intro pins s σ H xs us Q I r h
  obtain ⟨x, tp, cs, t, ws, b, rfl, hT, k, ty, e, q⟩ := h
  obtain ⟨u1, u2, rfl, r1, r2⟩ := vals2 r
  cases (show u2 = Value.ref tp from r2)
  obtain ⟨P, Z, p, hx⟩ := kit_of I r1 ty
  obtain ⟨its, rv, ⟨o, h1, h2, n, h3⟩, _⟩ := I.tuple hT
  have e3 := ClsV.all k rv
  subst e3
  obtain ⟨oc, od, dt, sl⟩ := o
  simp only at h2 h3
  subst h2 h3
  exact PySem.W.kia_tup Z I.kIn p h1 e hx fun tk => ⟨.bl b, H, I.tok tk, rfl, q⟩
@[irreducible] def isiTR : List DV → (DV → Prop) → Prop
  | [v, .d (.tup ts)], Q => match v.dat, tysD ts with
    | some d, some Ts => match tyD d with
      | some t => match kitBs t Ts with
        | some b => Q (.d (.bl b))
        | none => False
      | none => False
    | _, _ => False
  | _, _ => False
theorem tys_ok {K : PySem.W.Frag} {G : Hp} : ∀ {vs : List V} {ts : List D} {Ts : List String}, DAll K G vs ts → tysD ts = some Ts → Paired ClsV vs (Ts.map Value.type)
  | _, _, _, .nil, e => by cases e; exact .nil
  | _, _, _, .cons (d := .raw (.ty T)) h t, e => by
    unfold tysD at e
    rename_i ds
    cases z : tysD ds with
    | none => rw [z] at e; cases e
    | some Us => rw [z] at e; cases e; cases h; exact .cons (.ty _) (tys_ok t z)
theorem kits_ok {K : PySem.W.Frag} {t : String} : ∀ {Ts : List String} {b : Bool}, kitBs t Ts = some b → PySem.W.kitAny K (.type t) (Ts.map Value.type) = some b
  | [], _, e => by cases e; rfl
  | T :: r, b, e => by
    unfold kitBs at e
    rw [List.map_cons]
    unfold PySem.W.kitAny
    split at e
    · rename_i h; cases e; rw [kit_ty h]
    · rename_i h; rw [kit_ty h]; exact kits_ok e
    · cases e
theorem sem_isiT {K : PySem.W.Frag} : CallSem K (rIsiS K) isiTR := by
  intro G so H xs dxs Q R h w q k
  unfold isiTR at q
  split at q
  · obtain ⟨v, v', rfl, w1, w2, _⟩ := w.v2
    split at q
    · rename_i d Ts e1 e2
      split at q
      · rename_i t et
        split at q
        · rename_i b eb
          cases w2 with
          | tup sq al => exact ⟨_, _, _, _, _, b, rfl, ex_t h.ex sq, tys_ok al e2, ty_ok h w1 e1 et, kits_ok eb, k _ H G _ (.dat h (.bl _)) q⟩
        · exact q.elim
      · exact q.elim
    · exact q.elim
  · exact q.elim
theorem l_isiT {Q : DV → Prop} {v : DV} {d : D} {ts : List D} {Ts : List String} {t : String} {b : Bool} (h1 : v.dat = some d) (h2 : tysD ts = some Ts) (h3 : tyD d = some t) (h4 : kitBs t Ts = some b) (q : Q (.d (.bl b))) : isiTR [v, .d (.tup ts)] Q := by
  unfold isiTR
  dsimp only
  rw [h1, h2]
  dsimp only
  rw [h3]
  dsimp only
  rw [h4]
  exact q
/-! ### keyword-only parameters -/
theorem bd_kw {K : PySem.W.Frag} {x qual : Str} {params : Arguments} {body : List Stmt} {scope : Scope} {kws : List (Str × V)} {f : Addr} {fd : FuncData} {ps ks : List Str} {n : Nat} {sel : List Sel} (F : FunD K x qual params body scope [] kws f fd) (ms : List (Str × V)) (hk : kws ≠ []) (hms : ∀ q ∈ ms, q ∈ kws) (g : {α : Type} → List α → List α → List α → List α)
    (hrel : ∀ {vs mz zs : List V} {us mv ws : List Value}, Vals vs us → Vals mz mv → Vals zs ws → Vals (g vs mz zs) (g us mv ws))
    (h : ∀ (D : Addr) (doc pm : Value) (an : Option Addr) (cdv ct : Value) (us mv ws : List Value), us.length = n → mv.length = ms.length → ws.length = ks.length →
      KwChain D ((ms.map (·.1)).zip mv) (bindArgs (PySem.W.fnOf x qual params body scope .none (.ref D) doc pm an cdv ct) ⟨us, ks.zip ws⟩) (ps.zip (g us mv ws)))
    (hv : ∀ (vs qs : List V), vs.length = n → qs.length = ks.length → sel.map (pickV vs qs) = g vs (ms.map (·.2)) qs) (hs : ∀ s ∈ sel, ∀ (v : V) (d : D), s = .dfl v d → ∀ G, DOk K G v d) : Bd K fd ps n ks sel := by
  obtain ⟨mv, B⟩ := F.kbinds0 (ps := ps) n ks ms g hk hms hrel h
  exact ⟨fun s us ws vs qs X l1 l2 r1 r2 => ⟨_, B.to s us ws X l1 l2, by rw [hv vs qs (r1.length.trans l1) (r2.length.trans l2)]; exact B.rel r1 r2⟩, hs⟩
end DL

set_option Elab.async false
set_option linter.all false
set_option maxRecDepth 100000
set_option autoImplicit false
set_option maxHeartbeats 2000000
/-! ratios as pairs of ints -/
namespace DL
open PySem PySem.Spec PyProof.Rows L2
abbrev rt (n d : Int) : D := .tup [.int n, .int d]
def rD (q : Rat) : D := rt q.num (q.den : Int)
def gcI (n d : Int) : Int := ((Nat.gcd n.natAbs d.natAbs : Nat) : Int)
theorem gcI_pos {n d : Int} (h : 0 < d) : 0 < gcI n d := by
  unfold gcI
  have : 0 < Nat.gcd n.natAbs d.natAbs := Nat.gcd_pos_of_pos_right _ (by omega)
  omega
theorem low_num {n d : Int} (h : 0 < d) : (Rat.divInt n d).num = n / gcI n d := by
  rw [Rat.num_divInt, Int.sign_eq_one_of_pos h, Int.one_mul]
  unfold gcI
  rw [Int.gcd_comm]; rfl
theorem low_den {n d : Int} (h : 0 < d) : ((Rat.divInt n d).den : Int) = d / gcI n d := by
  rw [Rat.den_divInt, if_neg (by omega), Int.gcd_comm]
  show ((d.natAbs / Nat.gcd n.natAbs d.natAbs : Nat) : Int) = d / ((Nat.gcd n.natAbs d.natAbs : Nat) : Int)
  rw [Int.natCast_ediv, Int.natAbs_of_nonneg (by omega)]
theorem rD_low {n d : Int} (h : 0 < d) : rD (Rat.divInt n d) = rt (n / gcI n d) (d / gcI n d) := by
  unfold rD; rw [low_num h, low_den h]
theorem den_pos (q : Rat) : (0 : Int) < (q.den : Int) := by have := q.den_pos; omega
theorem rat_self (q : Rat) : Rat.divInt q.num (q.den : Int) = q := Rat.num_divInt_den q
theorem rat_add (p q : Rat) : Rat.divInt (p.num * q.den + q.num * p.den) ((p.den : Int) * q.den) = p + q := by
  have h1 : (p.den : Int) ≠ 0 := by have := den_pos p; omega
  have h2 : (q.den : Int) ≠ 0 := by have := den_pos q; omega
  rw [← Rat.divInt_add_divInt _ _ h1 h2, rat_self, rat_self]
theorem rat_mul (p q : Rat) : Rat.divInt (p.num * q.num) ((p.den : Int) * q.den) = p * q := by
  rw [← Rat.divInt_mul_divInt, rat_self, rat_self]
theorem rat_lt (p q : Rat) : decide (p.num * (q.den : Int) < q.num * p.den) = decide (p < q) := decide_eq_decide.mpr (Rat.lt_iff p q).symm
/-- bits -/
structure Nb (B : Nat) (q : Rat) : Prop where
  n : q.num.natAbs < 2 ^ B
  d : q.den < 2 ^ B
theorem Nb.mono {B C : Nat} {q : Rat} (h : Nb B q) (le : B ≤ C) : Nb C q := ⟨Nat.lt_of_lt_of_le h.n (Nat.pow_le_pow_right (by decide) le), Nat.lt_of_lt_of_le h.d (Nat.pow_le_pow_right (by decide) le)⟩
theorem nb_low {n d : Int} {B : Nat} (h : 0 < d) (h1 : n.natAbs < 2 ^ B) (h2 : d.natAbs < 2 ^ B) : Nb B (Rat.divInt n d) := by
  have g := gcI_pos (n := n) h
  refine ⟨?_, ?_⟩
  · rw [low_num h]
    have dv : gcI n d ∣ n := by
      show ((Nat.gcd n.natAbs d.natAbs : Nat) : Int) ∣ n
      exact Int.gcd_dvd_left n d
    rw [Int.natAbs_ediv_of_dvd dv]
    exact Nat.lt_of_le_of_lt (Nat.div_le_self _ _) h1
  · have e := low_den (n := n) h
    have : (Rat.divInt n d).den ≤ d.natAbs := by
      have l : d / gcI n d ≤ d := Int.ediv_le_self _ (by omega)
      omega
    exact Nat.lt_of_le_of_lt this h2
theorem nb_add {p q : Rat} {B C : Nat} (hp : Nb B p) (hq : Nb C q) : Nb (B + C + 1) (p + q) := by
  rw [← rat_add]
  have e : 2 ^ (B + C + 1) = 2 ^ B * 2 ^ C + 2 ^ B * 2 ^ C := by rw [Nat.pow_succ, Nat.pow_add]; omega
  refine nb_low (Int.mul_pos (den_pos p) (den_pos q)) ?_ ?_
  · have a1 : (p.num * (q.den : Int)).natAbs < 2 ^ B * 2 ^ C := by rw [Int.natAbs_mul]; exact Nat.mul_lt_mul'' hp.n (by simpa using hq.d)
    have a2 : (q.num * (p.den : Int)).natAbs < 2 ^ B * 2 ^ C := by rw [Int.natAbs_mul, Nat.mul_comm]; exact Nat.mul_lt_mul'' (by simpa using hp.d) hq.n
    rw [e]
    exact Nat.lt_of_le_of_lt (Int.natAbs_add_le _ _) (by omega)
  · have a1 : ((p.den : Int) * (q.den : Int)).natAbs < 2 ^ B * 2 ^ C := by rw [Int.natAbs_mul]; exact Nat.mul_lt_mul'' (by simpa using hp.d) (by simpa using hq.d)
    rw [e]; omega
theorem nb_mul {p q : Rat} {B C : Nat} (hp : Nb B p) (hq : Nb C q) : Nb (B + C) (p * q) := by
  rw [← rat_mul]
  refine nb_low (Int.mul_pos (den_pos p) (den_pos q)) ?_ ?_
  · rw [Int.natAbs_mul, Nat.pow_add]; exact Nat.mul_lt_mul'' hp.n hq.n
  · rw [Int.natAbs_mul, Nat.pow_add]; exact Nat.mul_lt_mul'' (by simpa using hp.d) (by simpa using hq.d)
/-! ### kinds of values -/
def kindD (d : D) : Bool := (tyD d).isSome
def wholeD : D → Bool
  | .int _ => true
  | _ => false
def numD (lo hi : Int) : D → Bool
  | .int i => decide (lo ≤ i) && decide (i ≤ hi)
  | _ => false
def ratioD : D → Bool
  | .tup [.int a, .int b] => decide (1 ≤ b) && decide (gcI a b = 1)
  | _ => false
theorem ratioD_ne {ds : List D} (h : ds.length ≠ 2) : ratioD (.tup ds) = false := by
  unfold ratioD
  split
  · rename_i e; cases e; exact absurd rfl h
  · rfl
def pairK : D → Prop
  | .tup [a, b] => kindD a = true ∧ kindD b = true
  | _ => True
def spWhole : SpD := fun args Q _ => ∃ x : D, args = [.d x] ∧ kindD x = true ∧ Q (.d (.bl (wholeD x)))
def spNumber : SpD := fun args Q _ => ∃ (x : D) (lo hi : Int), args = [.d x, .d (.int lo), .d (.int hi)] ∧ kindD x = true ∧ Q (.d (.bl (numD lo hi x)))
def spRatio : SpD := fun args Q _ => ∃ x : D, args = [.d x] ∧ kindD x = true ∧ pairK x ∧ Q (.d (.bl (ratioD x)))
def spValued : SpD := fun args Q _ => ∃ x : D, args = [.d x] ∧ kindD x = true ∧ pairK x ∧ Q (.d (.bl (wholeD x || ratioD x)))
/-- two ints, the second above 0 and of less than 8000 bits -/
def spLow : SpD := fun args Q _ => ∃ n d : Int, args = [.d (.int n), .d (.int d)] ∧ 0 < d ∧ d.natAbs < 2 ^ 8000 ∧ Q (.d (rD (Rat.divInt n d)))
/-- a function of two ratios -/
def spRat2 (f : Rat → Rat → DV) : SpD := fun args Q _ => ∃ p q : Rat, args = [.d (rD p), .d (rD q)] ∧ Nb 3900 p ∧ Nb 3900 q ∧ Q (f p q)
def ratOf : D → Option Rat
  | .int i => some (i : Rat)
  | .tup [.int a, .int b] => if 1 ≤ b ∧ gcI a b = 1 then some (Rat.divInt a b) else none
  | _ => none
def spRatioOf : SpD := fun args Q _ => ∃ (x : D) (q : Rat), args = [.d x] ∧ ratOf x = some q ∧ Q (.d (rD q))
theorem k_int_int : kitB "int" "int" = some true := by decide +kernel
theorem k_int_bool : kitB "int" "bool" = some false := by decide +kernel
theorem k_bool_int : kitB "bool" "int" = some true := by decide +kernel
theorem k_bool_bool : kitB "bool" "bool" = some true := by decide +kernel
theorem k_str_int : kitB "str" "int" = some false := by decide +kernel
theorem k_non_int : kitB "NoneType" "int" = some false := by decide +kernel
theorem k_list_int : kitB "list" "int" = some false := by decide +kernel
theorem k_tuple_int : kitB "tuple" "int" = some false := by decide +kernel
theorem k_int_tuple : kitB "int" "tuple" = some false := by decide +kernel
theorem k_bool_tuple : kitB "bool" "tuple" = some false := by decide +kernel
theorem k_str_tuple : kitB "str" "tuple" = some false := by decide +kernel
theorem k_non_tuple : kitB "NoneType" "tuple" = some false := by decide +kernel
theorem k_list_tuple : kitB "list" "tuple" = some false := by decide +kernel
theorem k_tuple_tuple : kitB "tuple" "tuple" = some true := by decide +kernel
theorem ratioD_rD (q : Rat) : ratioD (rD q) = true := by
  have h := q.reduced
  have h0 := den_pos q
  show (decide ((1 : Int) ≤ q.den) && decide (gcI q.num q.den = 1)) = true
  have e : gcI q.num q.den = 1 := by
    unfold gcI
    have : Nat.gcd q.num.natAbs (q.den : Int).natAbs = 1 := by simpa using h
    rw [this]; rfl
  rw [e]
  have : (1 : Int) ≤ q.den := by omega
  simp [this]
theorem ratOf_rD (q : Rat) : ratOf (rD q) = some q := by
  have h := ratioD_rD q
  have h2 : (decide ((1 : Int) ≤ q.den) && decide (gcI q.num q.den = 1)) = true := h
  rw [Bool.and_eq_true, decide_eq_true_eq, decide_eq_true_eq] at h2
  show (if 1 ≤ (q.den : Int) ∧ gcI q.num q.den = 1 then some (Rat.divInt q.num q.den) else none) = some q
  rw [if_pos h2, rat_self]
/-- a pair that is in its lowest terms is its ratio's -/
theorem rD_of {a b : Int} (h1 : 1 ≤ b) (h2 : gcI a b = 1) : rD (Rat.divInt a b) = rt a b := by
  rw [rD_low (by omega), h2, Int.ediv_one, Int.ediv_one]
end DL
namespace DL
open PySem PySem.Spec PyProof.Rows L2
def dotQ : List Rat → List Rat → Rat
  | p :: ps, q :: qs => p * q + dotQ ps qs
  | _, _ => 0
def sumQ : List Rat → Rat
  | q :: qs => q + sumQ qs
  | [] => 0
theorem dot_sum : ∀ ps qs : List Rat, sumQ (List.zipWith (· * ·) ps qs) = dotQ ps qs
  | [], [] => rfl
  | [], _ :: _ => rfl
  | _ :: _, [] => rfl
  | p :: ps, q :: qs => by show p * q + _ = p * q + _; rw [dot_sum ps qs]
theorem nb_zero : Nb 1 (0 : Rat) := ⟨by decide, by decide⟩
theorem sh_pair (a b : Int) : SeqAt.shaped (.tuple [.int a, .int b]) = true := by simp [SeqAt.shaped, PyData.canLay0, PyData.canLayAll0, PyData.depth, PyData.depthAll]
theorem l_eqRat {n : Bool} {p q : Rat} {Q : DV → Prop} (h : Q (.d (.bl (if n then !decide (p = q) else decide (p = q))))) : eqR n (.d (rD p)) (.d (rD q)) Q := by
  refine l_eqD (d := rD p) (e := rD q) (p := .tuple [.int p.num, .int p.den]) (p' := .tuple [.int q.num, .int q.den]) rfl rfl rfl rfl (sh_pair _ _) (sh_pair _ _) (.inr (.inl ⟨_, rfl⟩)) ?_
  have e : PyData.eqv (.tuple [.int p.num, .int p.den]) (.tuple [.int q.num, .int q.den]) = decide (p = q) := by
    simp only [PyData.eqv, PyData.eqvAll, Bool.and_true]
    rw [Bool.eq_iff_iff]
    simp only [Bool.and_eq_true, beq_iff_eq, decide_eq_true_eq]
    constructor
    · rintro ⟨h1, h2⟩
      exact Rat.ext h1 (by exact_mod_cast h2)
    · rintro rfl; exact ⟨rfl, rfl⟩
  rw [e]; exact h
theorem num_zero {q : Rat} (h : q.num = 0) : q = 0 := by
  rw [← rat_self q, h]
  exact Rat.zero_divInt _
theorem ints_map (f : D → D) : ∀ (n : Nat) (lo : Int), (intsFrom lo n).map f = (List.range n).map fun (i : Nat) => f (.int (lo + (i : Int)))
  | 0, _ => rfl
  | n + 1, lo => by
    show f (.int lo) :: (intsFrom (lo + 1) n).map f = _
    rw [ints_map f n (lo + 1), List.range_succ_eq_map, List.map_cons, List.map_map]
    congr 1
    · simp
    · apply List.map_congr_left
      intro i _
      show f (.int (lo + 1 + (i : Int))) = f (.int (lo + ((i + 1 : Nat) : Int)))
      congr 2
      omega
end DL
namespace DL
open PySem PySem.Spec PyProof.Rows L2
theorem mem_ints {d : D} : ∀ {n : Nat} {lo : Int}, d ∈ intsFrom lo n → ∃ i : Nat, i < n ∧ d = .int (lo + (i : Int))
  | 0, _, h => by cases h
  | n + 1, lo, h => by
    rcases List.mem_cons.mp (show d ∈ D.int lo :: intsFrom (lo + 1) n from h) with e | e
    · exact ⟨0, by omega, by rw [e]; simp⟩
    · obtain ⟨i, h1, h2⟩ := mem_ints e
      exact ⟨i + 1, by omega, by rw [h2]; congr 1; omega⟩
theorem at_map {α : Type} {f : α → D} {xs : List α} {i : Nat} {x : α} (h : xs[i]? = some x) : atI (xs.map f) (i : Int) = some (f x) := by
  have hi : i < xs.length := (List.getElem?_eq_some_iff.mp h).1
  unfold atI ixN
  rw [if_pos (by omega), if_pos (by rw [List.length_map]; omega), Int.toNat_natCast]
  show (List.map f xs)[i]? = _
  rw [List.getElem?_map, h]
  rfl
theorem nb_zip {B C : Nat} : ∀ {ps qs : List Rat}, (∀ p ∈ ps, Nb B p) → (∀ q ∈ qs, Nb C q) → ∀ z ∈ List.zipWith (· * ·) ps qs, Nb (B + C) z
  | [], [], _, _, _, h => by cases h
  | [], _ :: _, _, _, _, h => by cases h
  | _ :: _, [], _, _, _, h => by cases h
  | p :: ps, q :: qs, hp, hq, z, h => by
    rcases List.mem_cons.mp (show z ∈ p * q :: List.zipWith (· * ·) ps qs from h) with e | e
    · rw [e]; exact nb_mul (hp p (List.mem_cons_self ..)) (hq q (List.mem_cons_self ..))
    · exact nb_zip (fun x hx => hp x (List.mem_cons_of_mem _ hx)) (fun x hx => hq x (List.mem_cons_of_mem _ hx)) z e
end DL

set_option Elab.async false
set_option linter.all false
set_option maxRecDepth 100000
set_option autoImplicit false
set_option maxHeartbeats 2000000
/-! zip of a tuple and a list -/
namespace DL
open PySem PySem.Spec PyProof.Rows L2
def ItM (K : PySem.W.Frag) (a b : Addr) : It :=
  ⟨fun i H => ∃ (xs ys : List V) (x y : V), SqT K H a xs ∧ SqL K H b ys ∧ xs[i]? = some x ∧ ys[i]? = some y,
   fun i H v H' => ∃ T x y, v = .ref T ∧ H T = none ∧ H' = upd H T (.tup [x, y]) ∧ (∀ xs, SqT K H a xs → xs[i]? = some x) ∧ (∀ ys, SqL K H b ys → ys[i]? = some y),
   fun i H => ∃ xs ys : List V, SqT K H a xs ∧ SqL K H b ys ∧ (i = xs.length ∧ i ≤ ys.length ∨ i = ys.length ∧ i ≤ xs.length)⟩
def tnM (n : Nat) (a b : Addr) (i : Nat) (h : Heap) : Prop :=
  IsZip h (n + 4) (n + 2) (n + 3) .none ∧ IsTupOf2 h (n + 2) (.ref n) (.ref (n + 1)) ∧ (∃ x y, IsTupOf2 h (n + 3) x y) ∧ h.IsTupleIter n a i ∧ h.IsListIter (n + 1) b i
abbrev fpM (n : Nat) : List Addr := [n + 4, n + 2, n + 3, n, n + 1]
theorem nm2 {x p q : Addr} (h1 : x ≠ p) (h2 : x ≠ q) : x ∉ [p, q] := fun h => by
  rcases List.mem_cons.mp h with e | e
  · exact h1 e
  · exact h2 (List.mem_singleton.mp e)
theorem offs (n : Nat) : n + 2 ≠ n + 4 ∧ n + 3 ≠ n + 4 ∧ n + 2 ≠ n + 3 ∧ n + 2 ≠ n ∧ n + 2 ≠ n + 1 ∧ n + 4 ≠ n ∧ n + 3 ≠ n ∧ n + 4 ≠ n + 1 ∧ n + 3 ≠ n + 1 ∧ n ≠ n + 1 ∧ n ≠ n + 4 ∧ n + 1 ≠ n + 4 := by omega
theorem offa (n a : Nat) (h : a < n) : n + 4 ≠ a ∧ n + 3 ≠ a ∧ n ≠ a ∧ n + 1 ≠ a := by omega
theorem sepM {n : Nat} {a b : Addr} (ha : a < n) (hb : b < n) : ZipSep2 (n + 4) (n + 2) (n + 3) n (n + 1) [n, a] [n + 1, b] := by
  obtain ⟨o1, o2, o3, o4, o5, o6, o7, o8, o9, o10, _, _⟩ := offs n
  obtain ⟨a1, a2, a3, a4⟩ := offa n a ha
  obtain ⟨b1, b2, b3, b4⟩ := offa n b hb
  exact ⟨o1, o2, o3, o4, List.mem_cons_self .., nm2 o6 a1, nm2 o7 a2, o5, List.mem_cons_self .., nm2 o8 b1, nm2 o9 b2, nm2 o10 b3, nm2 (Ne.symm o10) a4⟩
theorem turnM {P : Program} {w : World} {K : PySem.W.Frag} {elts : List Expr} {kk : Nat} {tpos : Pos} {n : Nat} {a b : Addr} (ha : a < n) (hb : b < n) :
    Turn P w K (.Tuple elts kk tpos) (ItM K a b) (fpM n) (n + 4) (tnM n a b) where
  mem := List.mem_cons_self ..
  obj := fun i h ⟨hz, hTI, ⟨_, _, hTO⟩, ⟨o1, e1, _, d1⟩, ⟨o2, e2, _, d2⟩⟩ c hc => by
    rcases (by simpa using hc : c = n + 4 ∨ c = n + 2 ∨ c = n + 3 ∨ c = n ∨ c = n + 1) with rfl | rfl | rfl | rfl | rfl
    · exact ⟨_, hz, fun _ q => nomatch q⟩
    · exact ⟨_, hTI, fun _ q => nomatch q⟩
    · exact ⟨_, hTO, fun _ q => nomatch q⟩
    · exact ⟨o1, e1, fun _ q => (by rw [d1] at q; cases q)⟩
    · exact ⟨o2, e2, fun _ q => (by rw [d2] at q; cases q)⟩
  keep := fun i h h' ⟨hz, hTI, ⟨x, y, hTO⟩, h1, h2⟩ k =>
    ⟨k _ (by simp) _ hz, k _ (by simp) _ hTI, ⟨x, y, k _ (by simp) _ hTO⟩, h1.at fun o q => k _ (by simp) o q, h2.at fun o q => k _ (by simp) o q⟩
  item := by
    intro X hP hw hK hc i pins s σ H E I hf ⟨hz, hTI, ⟨x0, y0, hTO⟩, h1, h2⟩ ⟨xs, ys, x, y, qx, qy, hx, hy⟩
    cases hP; cases hw; cases hK
    obtain ⟨us, rv, pt, _⟩ := I.tuple qx
    obtain ⟨us2, rv2, pl, _⟩ := I.list qy
    obtain ⟨u, hu, ru⟩ := rv.get hx
    obtain ⟨u2, hu2, ru2⟩ := rv2.get hy
    have hh : X.A.in1.handled = none := I.ok.hd hc
    have hzl : n + 4 < s.heap.objs.size := Heap.lt_size hz
    have l1 : i < us.toArray.size := by simpa using (List.getElem?_eq_some_iff.mp hu).1
    have l2 : i < us2.toArray.size := by simpa using (List.getElem?_eq_some_iff.mp hu2).1
    have na : a ≠ n := Nat.ne_of_lt ha
    have nb : b ≠ n + 1 := Nat.ne_of_lt (Nat.lt_succ_of_lt hb)
    refine wpAny_pyNext_zipD2_item (sepM ha hb) (Draws.tuple hh n a na us.toArray) (Draws.list hh (n + 1) b nb us2.toArray) hz hTI hTO ⟨h1, pt⟩ ⟨h2, pl.isList⟩ l1 l2 ?_
    intro v1 v2 h' tk e1 e2 z' TO' st1 st2 hT hsz hk
    have ev1 : v1 = u := by rw [show us.toArray[i]? = some u by simpa using hu] at e1; exact (Option.some.inj e1).symm
    have ev2 : v2 = u2 := by rw [show us2.toArray[i]? = some u2 by simpa using hu2] at e2; exact (Option.some.inj e2).symm
    subst ev1; subst ev2
    refine ⟨_, rfl, wpAny_letOwnedTupleGo_zip (s := { s with heap := h', toks := tk }) z' fun h'' z'' sb => ?_⟩
    have nz : s.heap.objs.size ≠ n + 4 := Nat.ne_of_gt hzl
    have hT2 : h''.get? s.heap.objs.size = some { cls := .type "tuple", data := .seq #[v1, v2] } := (sb.2 _ nz).trans hT
    have kept : ∀ c o, c ∉ fpM n → s.heap.get? c = some o → h''.get? c = some o := fun c o hb q => by
      have m : c ≠ n + 4 ∧ c ≠ n + 2 ∧ c ≠ n + 3 ∧ c ≠ n ∧ c ≠ n + 1 := by simpa using hb
      exact (sb.2 c m.1).trans (hk c o m.1 m.2.2.1 m.2.2.2.1 m.2.2.2.2 q)
    have I1 : Inv X pins σ (upd H s.heap.objs.size (.tup [x, y])) { s with heap := h'', toks := tk } :=
      I.turnedNew (t' := tk) (ch := fpM n) kept hf (Nat.le_refl _) ⟨by show 2 ≤ sizeLine; decide, [v1, v2], .cons ru (.cons ru2 .nil), ⟨_, hT2, rfl, _, rfl⟩⟩
    refine ⟨.ref s.heap.objs.size, _, I1, rfl, ⟨_, x, y, rfl, I.hok.fresh (Nat.le_refl _), rfl, fun l hl => ?_, fun l hl => ?_⟩, ⟨z'', ?_, ⟨v1, v2, ?_⟩, ?_, ?_⟩, fun c hcm => ?_⟩
    · rw [I.tuple_inj hl qx]; exact hx
    · rw [I.list_inj hl qy]; exact hy
    · exact (sb.2 _ (offs n).1).trans (hk _ _ (offs n).1 (offs n).2.2.1 (offs n).2.2.2.1 (offs n).2.2.2.2.1 hTI)
    · exact (sb.2 (n + 3) (offs n).2.1).trans TO'
    · exact st1.1.at fun o q => (sb.2 n (offs n).2.2.2.2.2.2.2.2.2.2.1).trans q
    · exact st2.1.at fun o q => (sb.2 (n + 1) (offs n).2.2.2.2.2.2.2.2.2.2.2).trans q
    · have hlt : c < s.heap.objs.size := by
        have hzl' : n + 4 < (s.heap.objs.size : Nat) := hzl
        rcases (by simpa using hcm : c = n + 4 ∨ c = n + 2 ∨ c = n + 3 ∨ c = n ∨ c = n + 1) with rfl | rfl | rfl | rfl | rfl
        all_goals (show (_ : Nat) < _; omega)
      rw [upd_ne (Nat.ne_of_lt hlt)]
      exact (hf c hcm).1
  done := by
    intro X hP hw hK hc i pins s σ H E I hf ⟨hz, hTI, ⟨x0, y0, hTO⟩, h1, h2⟩ ⟨xs, ys, qx, qy, hend⟩
    cases hP; cases hw; cases hK
    obtain ⟨us, rv, pt, _⟩ := I.tuple qx
    obtain ⟨us2, rv2, pl, _⟩ := I.list qy
    have hh : X.A.in1.handled = none := I.ok.hd hc
    have e1 : us.toArray.size = xs.length := by simpa using rv.length.symm
    have e2 : us2.toArray.size = ys.length := by simpa using rv2.length.symm
    have na : a ≠ n := Nat.ne_of_lt ha
    have nb : b ≠ n + 1 := Nat.ne_of_lt (Nat.lt_succ_of_lt hb)
    refine wpAny_pyNext_zipD2_end (sepM ha hb) (Draws.tuple hh n a na us.toArray) (Draws.list hh (n + 1) b nb us2.toArray) hz hTI hTO ⟨h1, pt⟩ ⟨h2, pl.isList⟩ (by omega) (by omega) (by omega) ?_
    intro h' tk hk
    refine ⟨rfl, I.turnedL (t' := tk) (ch := fpM n) (fun c o hb q => ?_) hf⟩
    have m : c ≠ n + 4 ∧ c ≠ n + 2 ∧ c ≠ n + 3 ∧ c ≠ n ∧ c ≠ n + 1 := by simpa using hb
    exact hk c o m.1 m.2.2.1 m.2.2.2.1 m.2.2.2.2 q
  self := fun A i s Q E st h => wpAny_pyIter_zip st.1 h
def iZipU (K : PySem.W.Frag) (ta : TA) : TI := fun σ H R => ta σ H fun vs H1 => ∃ a b xs ys, vs = [.ref a, .ref b] ∧
  ((SqL K H1 a xs ∧ SqL K H1 b ys ∧ R (Itz K a b) H1) ∨ (SqT K H1 a xs ∧ SqT K H1 b ys ∧ R (RZ.ItzT K a b) H1) ∨ (SqT K H1 a xs ∧ SqL K H1 b ys ∧ R (ItM K a b) H1))
theorem fresh5 {X : Cx} {pins : List (Addr × Obj)} {σ : L2.St} {H : Hp} {s : Shared} (I : Inv X pins σ H s) : ∀ c ∈ fpM s.heap.objs.size, FpOk X pins H c := fun c hc => by
  have le : s.heap.objs.size ≤ c := by
    rcases (by simpa using hc : c = s.heap.objs.size + 4 ∨ c = s.heap.objs.size + 2 ∨ c = s.heap.objs.size + 3 ∨ c = s.heap.objs.size ∨ c = s.heap.objs.size + 1) with rfl | rfl | rfl | rfl | rfl
    · exact Nat.le_add_right _ 4
    · exact Nat.le_add_right _ 2
    · exact Nat.le_add_right _ 3
    · exact Nat.le_refl _
    · exact Nat.le_add_right _ 1
  exact I.fpOk le (I.hok.fresh le)
theorem pi_zipU {X : Cx} {e e2 : Expr} {ta : TA} {p pos tpos : Pos} {elts : List Expr} {kk : Nat} (hg : Gl X "zip") (hm : X.mg "zip" = none) (ha : PA X [e, e2] ta)
    (hs : starEach [e, e2] X.env = (false, eval e X.env) :: starEach [e2] X.env := by rfl) (hpl : (backTo pos (starEach [e2] X.env)).any (·.1) = false := by rfl) :
    PI X (.Tuple elts kk tpos) (.Call (.Name "zip" p) [e, e2] [] pos) (iZipU X.K ta) := by
  refine ⟨fun pins s σ H R I h => Call_ (ld_blt I hg hm PyProof.Rows.boot_zip (PyProof.Rows.callWith_type1 (thn (ha.run pos pins s σ H _ I h) ?_) hs hpl))⟩
  rintro us s1 ⟨vs, H1, I1, r1, a, b, xs, ys, rfl, q1⟩
  obtain ⟨w1, w2, rfl, e1, e2⟩ := vals2 r1
  obtain rfl : w1 = Value.ref a := e1
  obtain rfl : w2 = Value.ref b := e2
  have f5 := fresh5 I1
  rcases q1 with ⟨qx, qy, q⟩ | ⟨qx, qy, q⟩ | ⟨qx, qy, q⟩
  · obtain ⟨_, _, p1, _⟩ := I1.list qx
    obtain ⟨_, _, p2, _⟩ := I1.list qy
    refine call_zip_2 p1.isList p2.isList fun h' hz hTI hTO h1 h2 hsz hk => wpAny_pyIter_zip hz ?_
    exact ⟨_, fpM s1.heap.objs.size, _, _, H1, rfl, I1.kept (t' := s1.toks) hk, turn_zip (PySem.W.ktu_apart s1.heap.objs.size a b p1.lt p2.lt), ⟨hz, hTI, ⟨_, _, hTO⟩, h1, h2⟩, f5, q⟩
  · obtain ⟨_, _, p1, _⟩ := I1.tuple qx
    obtain ⟨_, _, p2, _⟩ := I1.tuple qy
    obtain ⟨_, g1, _⟩ := id p1
    obtain ⟨_, g2, _⟩ := id p2
    refine RZ.call_zipT p1 p2 fun h' hz hTI hTO h1 h2 hsz hk => wpAny_pyIter_zip hz ?_
    exact ⟨_, fpM s1.heap.objs.size, _, _, H1, rfl, I1.kept (t' := s1.toks) hk, RZ.turn_zipT (PySem.W.ktu_apart s1.heap.objs.size a b (Heap.lt_size g1) (Heap.lt_size g2)), ⟨hz, hTI, ⟨_, _, hTO⟩, h1, h2⟩, f5, q⟩
  · obtain ⟨us1, _, p1, _⟩ := I1.tuple qx
    obtain ⟨us2, _, p2, _⟩ := I1.list qy
    obtain ⟨_, g1, _⟩ := id p1
    refine zip_begins2 (begins_tuple a us1.toArray) (begins_list b us2.toArray) p1 p2.isList fun h' hz hTI hTO h1 h2 hsz hk => wpAny_pyIter_zip hz ?_
    exact ⟨_, fpM s1.heap.objs.size, _, _, H1, rfl, I1.kept (t' := s1.toks) hk, turnM (Heap.lt_size g1) p2.lt, ⟨hz, hTI, ⟨_, _, hTO⟩, ⟨_, h1, rfl, rfl⟩, ⟨_, h2, rfl, rfl⟩⟩, f5, q⟩
theorem it_zipM {K : PySem.W.Frag} {G H : Hp} {so : Option Addr} {σ : L2.St} {sl : DSt} {c c' : Addr} {vs ws : List V} {ds es : List D} (rep : Rep K G so σ H sl) (g : SqT K G c vs) (al : DAll K G vs ds) (g' : G c' = some (.lst ws)) (al' : DAll K G ws es) : ItD K G so σ H sl (ItM K c c') (zipD ds es) := by
  have hl := zip_len ds es
  have kp : ∀ (H1 : Hp), (∀ a ∈ (if G c = none then [] else [c]), H1 a = H a) → SqT K H1 c vs := fun H1 k => by
    rcases g with (e | ⟨o, e⟩) | e
    · refine .inl (.inl ?_)
      rw [k c (by rw [if_neg (by rw [e]; simp)]; simp)]; exact rep.h.ex _ _ e
    · refine .inl (.inr ⟨o, ?_⟩)
      rw [k c (by rw [if_neg (by rw [e]; simp)]; simp)]; exact rep.h.ex _ _ e
    · exact .inr e
  have st : ∀ (H1 : Hp), (∀ a ∈ (if G c = none then [] else [c]) ++ [c'], H1 a = H a) → SqT K H1 c vs ∧ SqL K H1 c' ws := fun H1 k =>
    ⟨kp H1 fun a ha => k a (List.mem_append_left _ ha), SqL.of (by rw [k c' (List.mem_append_right _ (List.mem_singleton.mpr rfl))]; exact rep.h.ex _ _ g')⟩
  refine ⟨(if G c = none then [] else [c]) ++ [c'], fun a ha => ?_, fun i H1 hi k => ?_, fun H1 k => ?_, fun i H1 x H2 G1 k g1 h1 y hi => ?_⟩
  · rcases List.mem_append.mp ha with ha | ha
    · split at ha
      · simp at ha
      · rename_i z
        obtain rfl : a = c := by simpa using ha
        obtain ⟨o, eo⟩ := Option.ne_none_iff_exists'.mp z
        exact ⟨by rw [rep.h.ex _ _ eo]; simp, rep.h.nsrc eo, fun q => z (rep.nown q).2.1⟩
    · obtain rfl : a = c' := by simpa using ha
      exact ⟨by rw [rep.h.ex _ _ g']; simp, rep.h.nsrc g', rep_own rep g'⟩
  · have h1 : i < vs.length := by rw [al.length]; rw [hl] at hi; omega
    have h2 : i < ws.length := by rw [al'.length]; rw [hl] at hi; omega
    exact ⟨vs, ws, vs[i], ws[i], (st H1 k).1, (st H1 k).2, by simp [h1], by simp [h2]⟩
  · refine ⟨vs, ws, (st H1 k).1, (st H1 k).2, ?_⟩
    rw [hl, al.length, al'.length]
    omega
  · obtain ⟨T, x1, x2, h2, h3, h4, f1, f2⟩ := y
    have f1' := f1 vs (st H1 k).1
    have f2' := f2 ws (st H1 k).2
    subst h2; subst h4
    obtain ⟨d1, e1, e2⟩ := al.getV f1'
    obtain ⟨d2, e3, e4⟩ := al'.getV f2'
    exact ⟨_, _, zip_get ds es i d1 d2 e1 e3, .tuple h1 h3 (.cons (e2.mono g1) (.cons (e4.mono g1) .nil))⟩
@[irreducible] def zipUR : List DV → (List D → Prop) → Prop
  | [.d (.tup xs), .d (.tup ys)], Q => Q (zipD xs ys)
  | [.d (.lst xs), .d (.lst ys)], Q => Q (zipD xs ys)
  | [.d (.tup xs), .d (.lst ys)], Q => Q (zipD xs ys)
  | _, _ => False
theorem di_zipU {X : Cx} {W : WX} {e e2 : Expr} {ta : TDA} {pos p : Pos} {elts : List Expr} {kk : Nat} {tpos : Pos} (hg : Gl X "zip") (hm : X.mg "zip" = none) (h : DA X W [e, e2] ta) (hs : starEach [e, e2] X.env = (false, eval e X.env) :: starEach [e2] X.env := by rfl) (hpl : (backTo pos (starEach [e2] X.env)).any (·.1) = false := by rfl) :
    DI X W (.Tuple elts kk tpos) (.Call (.Name "zip" p) [e, e2] [] pos) (dItA zipUR ta) := pi_imp (pi_zipU hg hm h hs hpl) fun σ H R ⟨G, so, sl, Q, E, rep, q, hq, hx⟩ => by
  refine ⟨G, so, sl, _, E, rep, q, fun vs H1 G1 ds s1 pp w q1 => ?_, hx⟩
  unfold zipUR at q1
  split at q1
  · obtain ⟨v, v', rfl, w1, w2, _⟩ := w.v2
    cases w1 with
    | tup g al =>
      cases w2 with
      | tup g' al' => exact ⟨_, _, _, _, rfl, .inr (.inl ⟨ex_t pp.rep.h.ex g, ex_t pp.rep.h.ex g', hq _ H1 G1 _ s1 pp (it_zipT pp.rep g al g' al') q1⟩)⟩
  · obtain ⟨v, v', rfl, w1, w2, _⟩ := w.v2
    cases w1 with
    | lst g al =>
      cases w2 with
      | lst g' al' => exact ⟨_, _, _, _, rfl, .inl ⟨SqL.of (pp.rep.h.ex _ _ g), SqL.of (pp.rep.h.ex _ _ g'), hq _ H1 G1 _ s1 pp (it_zip (pp.rep.h.ex _ _ g) al (pp.rep.h.nsrc g) (rep_own pp.rep g) (pp.rep.h.ex _ _ g') al' (pp.rep.h.nsrc g') (rep_own pp.rep g')) q1⟩⟩
  · obtain ⟨v, v', rfl, w1, w2, _⟩ := w.v2
    cases w1 with
    | tup g al =>
      cases w2 with
      | lst g' al' => exact ⟨_, _, _, _, rfl, .inr (.inr ⟨ex_t pp.rep.h.ex g, SqL.of (pp.rep.h.ex _ _ g'), hq _ H1 G1 _ s1 pp (it_zipM pp.rep g al g' al') q1⟩)⟩
  · exact q1.elim
theorem l_zipTT {P : List D → Prop} {ds es : List D} (q : P (zipD ds es)) : zipUR [.d (.tup ds), .d (.tup es)] P := by unfold zipUR; exact q
theorem l_zipTL {P : List D → Prop} {ds es : List D} (q : P (zipD ds es)) : zipUR [.d (.tup ds), .d (.lst es)] P := by unfold zipUR; exact q
theorem l_zipLL {P : List D → Prop} {ds es : List D} (q : P (zipD ds es)) : zipUR [.d (.lst ds), .d (.lst es)] P := by unfold zipUR; exact q
end DL

set_option Elab.async false
set_option linter.all false
set_option maxRecDepth 100000
set_option maxHeartbeats 4000000
namespace K08
open PySem PySem.Spec PyProof.Rows L2 DL
def topS (i : Nat) : Stmt := PySem.Challenge.pw_missingmiles_k08_values_that_keep_rows.main.body.getD i (.Pass ⟨0, 0, 0, 0⟩)
abbrev s_is_whole : Stmt := topS 9
abbrev i_is_whole : Nat := 0
abbrev s_is_number : Stmt := topS 10
abbrev i_is_number : Nat := 1
abbrev s_is_ratio : Stmt := topS 11
abbrev i_is_ratio : Nat := 2
abbrev s_is_valued : Stmt := topS 12
abbrev i_is_valued : Nat := 3
abbrev s_lowest : Stmt := topS 13
abbrev i_lowest : Nat := 4
abbrev s_ratio_of : Stmt := topS 14
abbrev i_ratio_of : Nat := 5
abbrev s_plus : Stmt := topS 15
abbrev i_plus : Nat := 6
abbrev s_times : Stmt := topS 16
abbrev i_times : Nat := 7
abbrev s_below : Stmt := topS 17
abbrev i_below : Nat := 8
abbrev s_dot : Stmt := topS 18
abbrev i_dot : Nat := 9
abbrev s_is_row : Stmt := topS 21
abbrev i_is_row : Nat := 10
abbrev s_Problem___init__ : Stmt := inClass (topS 22) 1
abbrev i_Problem___init__ : Nat := 11
abbrev s_Problem_keeps : Stmt := inClass (topS 22) 5
abbrev i_Problem_keeps : Nat := 12
abbrev s__law_source : Stmt := topS 24
abbrev i__law_source : Nat := 13
abbrev s__law_draw : Stmt := topS 25
abbrev i__law_draw : Nat := 14
abbrev s__law_of : Stmt := topS 26
abbrev i__law_of : Nat := 15
abbrev s__law_same : Stmt := topS 27
abbrev i__law_same : Nat := 16
abbrev s__law_low : Stmt := topS 28
abbrev i__law_low : Nat := 17
abbrev s__law_plus : Stmt := topS 29
abbrev i__law_plus : Nat := 18
abbrev s__law_times : Stmt := topS 30
abbrev i__law_times : Nat := 19
abbrev s__law_minus : Stmt := topS 31
abbrev i__law_minus : Nat := 20
abbrev s__law_less : Stmt := topS 32
abbrev i__law_less : Nat := 21
abbrev s__law_total : Stmt := topS 33
abbrev i__law_total : Nat := 22
abbrev s__law_dot : Stmt := topS 34
abbrev i__law_dot : Nat := 23
abbrev s__law_length : Stmt := topS 35
abbrev i__law_length : Nat := 24
abbrev s__law_gain : Stmt := topS 36
abbrev i__law_gain : Nat := 25
abbrev s__law_rows : Stmt := topS 37
abbrev i__law_rows : Nat := 26
abbrev s__law_keeps : Stmt := topS 38
abbrev i__law_keeps : Nat := 27
abbrev s_law : Stmt := topS 39
abbrev i_law : Nat := 28
structure Tx (K : PySem.W.Frag) (mg : Str → Option Value) (a : Nat → Addr) (d : Nat → FuncData) : Prop where
  F_is_whole : FunD K "is_whole" "is_whole" (defArgs s_is_whole) (defBody s_is_whole) (defScope s_is_whole) [] [] (a i_is_whole) (d i_is_whole)
  m_is_whole : mg "is_whole" = some (.ref (a i_is_whole))
  F_is_number : FunD K "is_number" "is_number" (defArgs s_is_number) (defBody s_is_number) (defScope s_is_number) [] [] (a i_is_number) (d i_is_number)
  m_is_number : mg "is_number" = some (.ref (a i_is_number))
  F_is_ratio : FunD K "is_ratio" "is_ratio" (defArgs s_is_ratio) (defBody s_is_ratio) (defScope s_is_ratio) [] [] (a i_is_ratio) (d i_is_ratio)
  m_is_ratio : mg "is_ratio" = some (.ref (a i_is_ratio))
  F_is_valued : FunD K "is_valued" "is_valued" (defArgs s_is_valued) (defBody s_is_valued) (defScope s_is_valued) [] [] (a i_is_valued) (d i_is_valued)
  m_is_valued : mg "is_valued" = some (.ref (a i_is_valued))
  F_lowest : FunD K "lowest" "lowest" (defArgs s_lowest) (defBody s_lowest) (defScope s_lowest) [] [] (a i_lowest) (d i_lowest)
  m_lowest : mg "lowest" = some (.ref (a i_lowest))
  F_ratio_of : FunD K "ratio_of" "ratio_of" (defArgs s_ratio_of) (defBody s_ratio_of) (defScope s_ratio_of) [] [] (a i_ratio_of) (d i_ratio_of)
  m_ratio_of : mg "ratio_of" = some (.ref (a i_ratio_of))
  F_plus : FunD K "plus" "plus" (defArgs s_plus) (defBody s_plus) (defScope s_plus) [] [] (a i_plus) (d i_plus)
  m_plus : mg "plus" = some (.ref (a i_plus))
  F_times : FunD K "times" "times" (defArgs s_times) (defBody s_times) (defScope s_times) [] [] (a i_times) (d i_times)
  m_times : mg "times" = some (.ref (a i_times))
  F_below : FunD K "below" "below" (defArgs s_below) (defBody s_below) (defScope s_below) [] [] (a i_below) (d i_below)
  m_below : mg "below" = some (.ref (a i_below))
  F_dot : FunD K "dot" "dot" (defArgs s_dot) (defBody s_dot) (defScope s_dot) [] [] (a i_dot) (d i_dot)
  m_dot : mg "dot" = some (.ref (a i_dot))
  F_is_row : FunD K "is_row" "is_row" (defArgs s_is_row) (defBody s_is_row) (defScope s_is_row) [] [] (a i_is_row) (d i_is_row)
  m_is_row : mg "is_row" = some (.ref (a i_is_row))
  F_Problem___init__ : FunD K "__init__" "Problem.__init__" (defArgs s_Problem___init__) (defBody s_Problem___init__) (defScope s_Problem___init__) [.ref (He.dflAt ("Problem", some "__init__") 0 K)] [] (a i_Problem___init__) (d i_Problem___init__)
  mk_Problem : Mk K (He.ga K "Problem") (a i_Problem___init__)
  F_Problem_keeps : FunD K "keeps" "Problem.keeps" (defArgs s_Problem_keeps) (defBody s_Problem_keeps) (defScope s_Problem_keeps) [] [("loose", .bl false)] (a i_Problem_keeps) (d i_Problem_keeps)
  me_Problem_keeps : Meth K (He.ga K "Problem") "keeps" (a i_Problem_keeps)
  F__law_source : FunD K "_law_source" "_law_source" (defArgs s__law_source) (defBody s__law_source) (defScope s__law_source) [] [] (a i__law_source) (d i__law_source)
  m__law_source : mg "_law_source" = some (.ref (a i__law_source))
  F__law_draw : FunD K "_law_draw" "_law_draw" (defArgs s__law_draw) (defBody s__law_draw) (defScope s__law_draw) [] [] (a i__law_draw) (d i__law_draw)
  m__law_draw : mg "_law_draw" = some (.ref (a i__law_draw))
  F__law_of : FunD K "_law_of" "_law_of" (defArgs s__law_of) (defBody s__law_of) (defScope s__law_of) [] [] (a i__law_of) (d i__law_of)
  m__law_of : mg "_law_of" = some (.ref (a i__law_of))
  F__law_same : FunD K "_law_same" "_law_same" (defArgs s__law_same) (defBody s__law_same) (defScope s__law_same) [] [] (a i__law_same) (d i__law_same)
  m__law_same : mg "_law_same" = some (.ref (a i__law_same))
  F__law_low : FunD K "_law_low" "_law_low" (defArgs s__law_low) (defBody s__law_low) (defScope s__law_low) [] [] (a i__law_low) (d i__law_low)
  m__law_low : mg "_law_low" = some (.ref (a i__law_low))
  F__law_plus : FunD K "_law_plus" "_law_plus" (defArgs s__law_plus) (defBody s__law_plus) (defScope s__law_plus) [] [] (a i__law_plus) (d i__law_plus)
  m__law_plus : mg "_law_plus" = some (.ref (a i__law_plus))
  F__law_times : FunD K "_law_times" "_law_times" (defArgs s__law_times) (defBody s__law_times) (defScope s__law_times) [] [] (a i__law_times) (d i__law_times)
  m__law_times : mg "_law_times" = some (.ref (a i__law_times))
  F__law_minus : FunD K "_law_minus" "_law_minus" (defArgs s__law_minus) (defBody s__law_minus) (defScope s__law_minus) [] [] (a i__law_minus) (d i__law_minus)
  m__law_minus : mg "_law_minus" = some (.ref (a i__law_minus))
  F__law_less : FunD K "_law_less" "_law_less" (defArgs s__law_less) (defBody s__law_less) (defScope s__law_less) [] [] (a i__law_less) (d i__law_less)
  m__law_less : mg "_law_less" = some (.ref (a i__law_less))
  F__law_total : FunD K "_law_total" "_law_total" (defArgs s__law_total) (defBody s__law_total) (defScope s__law_total) [] [] (a i__law_total) (d i__law_total)
  m__law_total : mg "_law_total" = some (.ref (a i__law_total))
  F__law_dot : FunD K "_law_dot" "_law_dot" (defArgs s__law_dot) (defBody s__law_dot) (defScope s__law_dot) [] [] (a i__law_dot) (d i__law_dot)
  m__law_dot : mg "_law_dot" = some (.ref (a i__law_dot))
  F__law_length : FunD K "_law_length" "_law_length" (defArgs s__law_length) (defBody s__law_length) (defScope s__law_length) [] [] (a i__law_length) (d i__law_length)
  m__law_length : mg "_law_length" = some (.ref (a i__law_length))
  F__law_gain : FunD K "_law_gain" "_law_gain" (defArgs s__law_gain) (defBody s__law_gain) (defScope s__law_gain) [] [] (a i__law_gain) (d i__law_gain)
  m__law_gain : mg "_law_gain" = some (.ref (a i__law_gain))
  F__law_rows : FunD K "_law_rows" "_law_rows" (defArgs s__law_rows) (defBody s__law_rows) (defScope s__law_rows) [] [] (a i__law_rows) (d i__law_rows)
  m__law_rows : mg "_law_rows" = some (.ref (a i__law_rows))
  F__law_keeps : FunD K "_law_keeps" "_law_keeps" (defArgs s__law_keeps) (defBody s__law_keeps) (defScope s__law_keeps) [] [] (a i__law_keeps) (d i__law_keeps)
  m__law_keeps : mg "_law_keeps" = some (.ref (a i__law_keeps))
  F_law : FunD K "law" "law" (defArgs s_law) (defBody s_law) (defScope s_law) [] [] (a i_law) (d i_law)
  m_Problem : mg "Problem" = some (.ref (He.ga K "Problem"))
  cl_Problem : Cls K (He.ga K "Problem")
  na_Problem_own_size : NoAttr K (He.ga K "Problem") "own_size"
  na_Problem_own_rows : NoAttr K (He.ga K "Problem") "own_rows"
  n_abs : mg "abs" = none
  n_all : mg "all" = none
  n_bool : mg "bool" = none
  n_enumerate : mg "enumerate" = none
  n_int : mg "int" = none
  n_isinstance : mg "isinstance" = none
  n_len : mg "len" = none
  n_list : mg "list" = none
  n_range : mg "range" = none
  n_repr : mg "repr" = none
  n_tuple : mg "tuple" = none
  n_zip : mg "zip" = none
  b_gcd : mg "gcd" = some (.builtin "math.gcd")
  c_ZERO : GlobD K mg "ZERO" (.tup [.int 0, .int 1])
  c_MOST_UNKNOWNS : GlobD K mg "MOST_UNKNOWNS" (.int 60)
theorem cutV_map (ns : List Int) (lo hi : Option Int) : cutV (ns.map V.int) lo hi = (cut ns lo hi).map V.int := by
  unfold cutV cut
  rw [List.length_map, List.map_take, List.map_drop]
theorem at_mem {α : Type} {xs : List α} {n : Int} (h0 : 0 ≤ n) (h1 : n < (xs.length : Int)) : ∃ x, atI xs n = some x ∧ x ∈ xs := by
  have hj : n.toNat < xs.length := by omega
  refine ⟨xs[n.toNat], ?_, List.getElem_mem hj⟩
  unfold atI ixN
  rw [if_pos h0, if_pos h1]
  exact List.getElem?_eq_getElem hj
theorem small_len {n : Nat} (h : n ≤ szl) : (n : Int) < 2 ^ 64 := by
  have : szl = 16777216 := rfl
  omega
section
variable {P : Program} {w : World} {K : PySem.W.Frag} {mg : Str → Option Value} {base : Heap} {a : Nat → Addr} {d : Nat → FuncData}

/-! ### the source -/
abbrev n__law_source : List Str := ["_law_script", "_law_seed", "_law_cell"]
theorem sc__law_source : FnScope n__law_source ["_law_script"] (defScope s__law_source) := ⟨rfl, rfl, rfl, by decide +kernel, rfl, by decide +kernel, by decide +kernel⟩
theorem ok__law_source (T : Tx K mg a d) : FnR P w K mg base 1 (a i__law_source) (d i__law_source) ["_law_script"] (spSource K) := by
  refine fnR_of T.F__law_source sc__law_source (fun vs H Q E h => ?_) (fun cdv A outer s H vs Q E hr hg h => ?_)
  · obtain ⟨c, ns, rfl, _⟩ := h; rfl
  · obtain ⟨c, ns, rfl, hS, hlen, q⟩ := h
    refine ⟨_, pss_cons (ps_set (i := 1) sc__law_source.nd rfl (.inl rfl) pe_int)
      (pss_cons (ps_for (passes_of rfl) rfl (pi_list (pe_slice sl_list (pv 0) po_none (po_some pe_int))) (pg_name (i := 2) sc__law_source.nd rfl (.inl rfl))
        (pss_one (ps_set (i := 1) sc__law_source.nd rfl (.inl rfl) (pe_op op_mod (pe_callTy call_int1 (by rfl) T.n_int (by decide +kernel) (pa_cons (pe_op op_add (pe_op op_add (pe_op op_mul (pv 1) pe_int) (pe_op op_mod (pe_callTy call_int1 (by rfl) T.n_int (by decide +kernel) (pa_cons (pv 2) pa_nil)) pe_int)) pe_int) pa_nil)) pe_int))))
      (pss_one (ps_ret (pe_lst (pa_cons (pe_callTy call_list_of (by rfl) T.n_list (by decide +kernel) (pa_cons (pe_slice sl_list (pv 0) po_none (po_some pe_int)) pa_nil)) (pa_cons pe_int (pa_cons pe_int (pa_cons (pv 1) (pa_cons pe_int pa_nil))))))))), ?_⟩
    refine ⟨.ref c, rfl, 63, rfl, c, ns.map V.int, rfl, hS, fun l nl => ⟨l, rfl, ⟨_, SqL.of upd_same⟩, ?_⟩⟩
    refine for_list (K := K) (a := l) (xs := cutV (ns.map V.int) none (some 63)) (fun i σ H2 => ∃ sd v, σ = [some (.ref c), some (.int sd), v] ∧ Ex H H2 ∧ H2 l = some (.lst (cutV (ns.map V.int) none (some 63))) ∧ 0 ≤ sd ∧ sd < 4294967296) ⟨10040, none, rfl, Ex.new nl, upd_same, by decide, by decide⟩ (fun i σ H2 _ ⟨_, _, _, _, e, _⟩ => SqL.of e) ?_ ?_
    · rintro i y σ H2 hi ⟨sd, v, rfl, ex, el, h0, h1⟩
      obtain ⟨z, rfl⟩ : ∃ z, y = V.int z := by
        rw [cutV_map, List.getElem?_map] at hi
        cases e : (cut ns none (some 63))[i]? with
        | none => rw [e] at hi; cases hi
        | some z => rw [e] at hi; exact ⟨z, (Option.some.inj hi).symm⟩
      refine ⟨_, rfl, _, _, rfl, rfl, .inr ⟨by decide, by decide⟩, _, rfl, .inl ⟨z, rfl, _, _, rfl, rfl, (by show (0 : Int) < 2147483353; decide), _, _, rfl, rfl, _, _, rfl, rfl, .inl ⟨_, rfl, _, _, rfl, rfl, (by show (0 : Int) < 2147483587; decide), ?_⟩⟩⟩
      refine ⟨_, _, rfl, ex, el, Int.emod_nonneg _ (by decide), Int.lt_trans (Int.emod_lt_of_pos _ (by decide)) (by decide)⟩
    · rintro σ H2 ⟨sd, v, rfl, ex, el, h0, h1⟩
      refine ⟨.ref c, rfl, 63, rfl, c, ns.map V.int, rfl, ex_l ex hS, fun l2 n2 => ⟨l2, _, rfl, .inl (SqL.of upd_same), fun l3 n3 => ?_⟩⟩
      refine ⟨.int sd, rfl, by show 5 ≤ sizeLine; decide, fun p np => ?_⟩
      have n23 : H2 l3 = none := (Ex.new (o := .lst (cutV (ns.map V.int) none (some 63))) n2).free n3
      have e3 : Ex H2 (upd (upd (upd H2 l2 (.lst (cutV (ns.map V.int) none (some 63)))) l3 (.lst (cutV (ns.map V.int) none (some 63)))) p (.lst [.ref l3, .int 0, .int 0, .int sd, .int 0])) := (Ex.new n2).trans ((Ex.new n3).trans (Ex.new np))
      have ne : l3 ≠ p := fun e => by subst e; rw [upd_same] at np; cases np
      refine q _ p l3 (cut ns none (some 63)) sd (ex.trans e3) ne upd_same (by rw [upd_ne ne, upd_same, cutV_map]) ?_ h0 h1
      exact Nat.le_trans (by unfold cut; rw [List.length_take, List.length_drop]; omega) hlen
/-! ### a draw -/
abbrev n__law_draw : List Str := ["_law_src", "_law_many", "_law_cell", "_law_digit", "_law_root", "_law_grown"]
theorem sc__law_draw : FnScope n__law_draw ["_law_src", "_law_many"] (defScope s__law_draw) := ⟨rfl, rfl, rfl, by decide +kernel, rfl, by decide +kernel, by decide +kernel⟩
def SrcAt (p : Addr) (H H2 : Hp) (c : Addr) (i r sd n : Int) : Prop := (∀ b, b ≠ p → H2 b = H b) ∧ H2 p = some (.lst [.ref c, .int i, .int r, .int sd, .int n]) ∧ 0 ≤ i ∧ 0 ≤ r ∧ 0 ≤ sd ∧ sd < 4294967296
theorem small_log {m : Int} (h0 : 0 < m) (h : m < 2 ^ 64) : m.natAbs.log2 < 9000 := by
  have : m.natAbs.log2 < 64 := (Nat.log2_lt (by omega)).mpr (by omega)
  omega
theorem mod_lt64 {x m : Int} (h0 : 0 < m) (h : m ≤ 4294967296) : (-(2 ^ 64) < x % m ∧ x % m < 2 ^ 64) ∧ 0 ≤ x % m ∧ x % m < m := by
  have h1 := Int.emod_nonneg x (show m ≠ 0 by omega)
  have h2 := Int.emod_lt_of_pos x h0
  exact ⟨⟨by omega, by omega⟩, h1, h2⟩
theorem ok__law_draw (T : Tx K mg a d) : FnG P w K mg base 1 (a i__law_draw) (d i__law_draw) ["_law_src", "_law_many"] spDraw := by
  refine FnR.g (fnR_of T.F__law_draw sc__law_draw (fun vs H Q E h => ?_) (fun cdv A outer s H vs Q E hr hg h => ?_)) (fun args Q E h => ?_)
  · obtain ⟨G, so, as, QD, ED, _, w1, ⟨m, rfl, _⟩, _⟩ := h
    exact w1.length
  · obtain ⟨G, so, as, QD, ED, hrep, w1, ⟨m, rfl, hm0, hm1, hq⟩, hQ, _⟩ := h
    obtain ⟨v1, v2, rfl, ⟨p, rfl, rfl⟩, wm, _⟩ := w1.v2
    cases wm
    obtain ⟨gp, c, ms, i0, r0, sd0, n0, hp, hc, hms, hi0, hr0, hs0, hs1⟩ := hrep.src p rfl
    -- what is handed back
    have fin : ∀ (H2 : Hp) (i r sd n k : Int), SrcAt p H H2 c i r sd n → 0 ≤ k → k < m → Q (.int k) H2 := fun H2 i r sd n k ⟨e1, e2, e3, e4, e5, e6⟩ k0 k1 => by
      refine hQ (.int k) H2 G (.d (.int k)) ⟨Ex.refl G, ⟨fun b o e => ?_, fun b e => ?_⟩, fun b o e sb => ?_, fun _ _ g _ => g, .int k, fun _ _ z => (nomatch z), fun _ z => (nomatch z)⟩ (hq k k0 k1)
      · rw [e1 b (fun z => by subst z; rw [gp] at e; cases e)]; exact hrep.ex b o e
      · cases e; exact ⟨gp, c, ms, i, r, sd, n, e2, hc, hms, e3, e4, e5, e6⟩
      · rw [e1 b (fun z => sb (by rw [z]))]; exact e
    have cells : ∀ {H2 : Hp}, (∀ b, b ≠ p → H2 b = H b) → SqL K H2 c (ms.map V.int) := fun {H2} e1 => ex_l (fun b o e => by
      rw [e1 b (fun z => by subst z; rw [gp] at e; cases e)]; exact hrep.ex b o e) hc
    obtain ⟨t2, pt2, key⟩ : ∃ t2, PSs (cxOf (L2.CX P w) P w K mg base n__law_draw "_law_draw" (defScope s__law_draw) (a i__law_draw) cdv A outer s H E) ((defBody s__law_draw).drop 1) t2 ∧
        ∀ (H2 : Hp) (i r sd n : Int) (y : Option V), SrcAt p H H2 c i r sd n → t2 { nx := fun _ H' => Q .non H', rt := Q } [some (.ref p), some (.int m), y, none, none, none] H2 := by
      refine ⟨_, pss_cons (ps_if (pt_cmpR op_ge (pe_ix ix_list (pv 0) pe_int (fun _ _ => rfl)) (pv 1) (nomark _))
          (pss_cons (ps_set (i := 3) sc__law_draw.nd rfl (.inl rfl) (pe_op op_mod (pe_callTy call_int1 (by rfl) T.n_int (by decide +kernel) (pa_cons (pe_ix ix_list (pv 0) pe_int (fun _ _ => rfl)) pa_nil)) (pv 1)))
          (pss_cons (ps_asg (pe_op op_fdivW (pe_ix ix_list (pv 0) pe_int (fun _ _ => rfl)) (pv 1)) (pg_sub (pv 0) pe_int set_list))
          (pss_one (ps_ret (pv 3))))) pss_nil)
        (pss_cons (ps_asg (pe_op op_add (pe_ix ix_list (pv 0) pe_int (fun _ _ => rfl)) pe_int) (pg_sub (pv 0) pe_int set_list))
        (pss_cons (ps_set (i := 4) sc__law_draw.nd rfl (.inl rfl) (pe_op op_mod (pe_callTy call_int1 (by rfl) T.n_int (by decide +kernel) (pa_cons (pe_op op_add (pe_ix ix_list (pv 0) pe_int (fun _ _ => rfl)) (pe_op op_mul (pe_ix ix_list (pv 0) pe_int (fun _ _ => rfl)) pe_int)) pa_nil)) pe_int))
        (pss_cons (ps_set (i := 5) sc__law_draw.nd rfl (.inl rfl) (pe_op op_mul (pe_op op_mod (pe_callTy call_int1 (by rfl) T.n_int (by decide +kernel) (pa_cons (pe_op op_mul (pv 4) (pv 4)) pa_nil)) pe_int) (pe_op op_add (pe_op op_mod (pe_callTy call_int1 (by rfl) T.n_int (by decide +kernel) (pa_cons (pv 4) pa_nil)) pe_int) pe_int)))
        (pss_cons (ps_asg (pe_op op_mod (pe_callTy call_int1 (by rfl) T.n_int (by decide +kernel) (pa_cons (pe_op op_add (pe_op op_add (pv 5) (pe_op op_mul pe_int (pv 4))) pe_int) pa_nil)) pe_int) (pg_sub (pv 0) pe_int set_list))
        (pss_one (ps_ret (pe_op op_mod (pe_callTy call_int1 (by rfl) T.n_int (by decide +kernel) (pa_cons (pe_op op_add (pe_op op_fdiv (pe_ix ix_list (pv 0) pe_int (fun _ _ => rfl)) pe_int) (pe_op op_mul (pe_op op_mod (pe_callTy call_int1 (by rfl) T.n_int (by decide +kernel) (pa_cons (pe_ix ix_list (pv 0) pe_int (fun _ _ => rfl)) pa_nil)) pe_int) pe_int)) pa_nil)) (pv 1)))))))), ?_⟩
      rintro H2 i r sd n y ⟨e1, e2, e3, e4, e5, e6⟩
      have e2L : SqL K H2 p [.ref c, .int i, .int r, .int sd, .int n] := SqL.of e2
      refine ⟨.ref p, rfl, p, _, 2, .int r, rfl, rfl, e2L, rfl, .int m, rfl, r, m, rfl, rfl, _, rfl, ite2 (fun h => ?_) (fun h => ?_)⟩
      · have hrm : m ≤ r := of_decide_eq_true h
        refine ⟨.ref p, rfl, p, _, 2, .int r, rfl, rfl, e2L, rfl, .inl ⟨r, rfl, .int m, rfl, r, m, rfl, rfl, hm0, ?_⟩⟩
        refine ⟨.ref p, rfl, p, _, 2, .int r, rfl, rfl, e2L, rfl, .int m, rfl, r, m, rfl, rfl, ⟨hm0, small_log hm0 hm1⟩, .ref p, rfl, p, _, 2, 2, rfl, rfl, e2, rfl, ?_⟩
        refine ⟨.int (r % m), rfl, ?_⟩
        refine fin _ i (r / m) sd n (r % m) ⟨fun b hb => by rw [upd_ne hb]; exact e1 b hb, upd_same, e3, Int.ediv_nonneg e4 (by omega), e5, e6⟩ (Int.emod_nonneg _ (by omega)) (Int.emod_lt_of_pos _ hm0)
      · refine ⟨.ref p, rfl, p, _, 4, .int n, rfl, rfl, e2L, rfl, n, 1, rfl, rfl, .ref p, rfl, p, _, 4, 4, rfl, rfl, e2, rfl, ?_⟩
        have e3L : SqL K (upd H2 p (.lst ([V.ref c, .int i, .int r, .int sd, .int n].set 4 (.int (n + 1))))) p [.ref c, .int i, .int r, .int sd, .int (n + 1)] := SqL.of upd_same
        refine ⟨.ref p, rfl, p, _, 3, .int sd, rfl, rfl, e3L, rfl, .ref p, rfl, p, _, 4, .int (n + 1), rfl, rfl, e3L, rfl, n + 1, 9431, rfl, rfl, .inr ⟨by decide, by decide⟩, sd, _, rfl, rfl, .inl ⟨_, rfl, _, 2147483629, rfl, rfl, (by show (0 : Int) < 2147483629; decide), ?_⟩⟩
        obtain ⟨q1, q2, q3⟩ := mod_lt64 (x := sd + (n + 1) * 9431) (m := 2147483629) (by decide) (by decide)
        refine ⟨_, rfl, _, rfl, _, _, rfl, rfl, .inl q1, .inl ⟨_, rfl, _, 2147483399, rfl, rfl, (by show (0 : Int) < 2147483399; decide), _, rfl, .inl ⟨_, rfl, _, 39989, rfl, rfl, (by show (0 : Int) < 39989; decide), _, 9, rfl, rfl, _, _, rfl, rfl, .inl (mod_lt64 (by decide) (by decide)).1, ?_⟩⟩⟩
        refine ⟨_, rfl, _, rfl, 29989, _, rfl, rfl, .inl ⟨by decide, by decide⟩, _, _, rfl, rfl, _, 991, rfl, rfl, .inl ⟨_, rfl, _, 2147483549, rfl, rfl, (by show (0 : Int) < 2147483549; decide), .ref p, rfl, p, _, 3, 3, rfl, rfl, upd_same, rfl, ?_⟩⟩
        generalize hg2 : ((sd + (n + 1) * 9431) % 2147483629 * ((sd + (n + 1) * 9431) % 2147483629) % 2147483399 * ((sd + (n + 1) * 9431) % 2147483629 % 39989 + 9) + 29989 * ((sd + (n + 1) * 9431) % 2147483629) + 991) % 2147483549 = sd2
        have s2 : 0 ≤ sd2 := by rw [← hg2]; exact Int.emod_nonneg _ (by decide)
        have s3 : sd2 < 4294967296 := by rw [← hg2]; exact Int.lt_trans (Int.emod_lt_of_pos _ (by decide)) (by decide)
        dsimp only
        rw [hg2, upd_upd]
        have e4L : SqL K (upd H2 p (.lst (([V.ref c, .int i, .int r, .int sd, .int n].set 4 (.int (n + 1))).set 3 (.int sd2)))) p [.ref c, .int i, .int r, .int sd2, .int (n + 1)] := SqL.of upd_same
        refine ⟨.ref p, rfl, p, _, 3, .int sd2, rfl, rfl, e4L, rfl, sd2, 73, rfl, rfl, ⟨by decide, by decide⟩, .ref p, rfl, p, _, 3, .int sd2, rfl, rfl, e4L, rfl, .inl ⟨sd2, rfl, sd2, 8521, rfl, rfl, (by show (0 : Int) < 8521; decide), _, 57, rfl, rfl, .inr ⟨by decide, by decide⟩, _, _, rfl, rfl, .inl ⟨_, rfl, .int m, rfl, _, m, rfl, rfl, hm0, ?_⟩⟩⟩
        exact fin _ i r sd2 (n + 1) _ ⟨fun b hb => by rw [upd_ne hb]; exact e1 b hb, upd_same, e3, e4, s2, s3⟩ (Int.emod_nonneg _ (by omega)) (Int.emod_lt_of_pos _ hm0)
    refine ⟨_, pss_cons (ps_if (PW.pt (pw_and (pt_cmpR op_lt (pe_ix ix_list (pv 0) pe_int (fun _ _ => rfl)) (pv 1) (nomark _)) (pw_and1 (pt_cmpR op_lt (pe_ix ix_list (pv 0) pe_int (fun _ _ => rfl)) (pe_callB call_len_seq (by rfl) T.n_len PySem.boot_len (pa_cons (pe_ix ix_list (pv 0) pe_int (fun _ _ => rfl)) pa_nil)) (nomark _)))))
        (pss_cons (ps_set (i := 2) sc__law_draw.nd rfl (.inl rfl) (pe_ix ix_list (pe_ix ix_list (pv 0) pe_int (fun _ _ => rfl)) (pe_ix ix_list (pv 0) pe_int (fun _ _ => rfl)) (fun _ _ => rfl)))
        (pss_cons (ps_asg (pe_op op_add (pe_ix ix_list (pv 0) pe_int (fun _ _ => rfl)) pe_int) (pg_sub (pv 0) pe_int set_list))
        (pss_cons (ps_asg (pe_op op_mod (pe_callTy call_int1 (by rfl) T.n_int (by decide +kernel) (pa_cons (pe_op op_add (pe_op op_add (pe_op op_mul (pe_ix ix_list (pv 0) pe_int (fun _ _ => rfl)) pe_int) (pe_op op_mod (pe_callTy call_int1 (by rfl) T.n_int (by decide +kernel) (pa_cons (pv 2) pa_nil)) pe_int)) pe_int) pa_nil)) pe_int) (pg_sub (pv 0) pe_int set_list))
        (pss_one (ps_asg (pe_ifExp (pt_cmpR op_ge (pv 2) (pe_op op_pow pe_int pe_int) (nomark _)) (pv 2) pe_int) (pg_sub (pv 0) pe_int set_list)))))) pss_nil) pt2, ?_⟩
    have hpL : SqL K H p [.ref c, .int i0, .int r0, .int sd0, .int n0] := SqL.of hp
    have S0 : SrcAt p H H c i0 r0 sd0 n0 := ⟨fun _ _ => rfl, hp, hi0, hr0, hs0, hs1⟩
    refine ⟨.ref p, rfl, p, _, 2, .int r0, rfl, rfl, hpL, rfl, .int m, rfl, r0, m, rfl, rfl, _, rfl, ite2 (fun h => ?_) (fun h => ?_)⟩
    · refine ⟨.ref p, rfl, p, _, 1, .int i0, rfl, rfl, hpL, rfl, .ref p, rfl, p, _, 0, .ref c, rfl, rfl, hpL, rfl, c, ms.map V.int, rfl, .inl (cells fun _ _ => rfl), i0, _, rfl, rfl, _, rfl, ite2 (fun h2 => ?_) (fun h2 => ?_)⟩
      · have hlt : i0 < ((ms.map V.int).length : Int) := of_decide_eq_true h2
        rw [List.length_map] at hlt
        have hj : i0.toNat < ms.length := by omega
        have atc : atI (ms.map V.int) i0 = some (.int ms[i0.toNat]) := at_of (j := i0.toNat) (by omega) (by rw [List.getElem?_map, List.getElem?_eq_getElem hj]; rfl)
        generalize ms[i0.toNat] = z at atc
        refine ⟨.ref p, rfl, p, _, 0, .ref c, rfl, rfl, hpL, rfl, .ref p, rfl, p, _, 1, .int i0, rfl, rfl, hpL, rfl, c, _, i0, .int z, rfl, rfl, cells (fun _ _ => rfl), atc, ?_⟩
        refine ⟨.ref p, rfl, p, _, 1, .int i0, rfl, rfl, hpL, rfl, i0, 1, rfl, rfl, .ref p, rfl, p, _, 1, 1, rfl, rfl, hp, rfl, ?_⟩
        have e3L : SqL K (upd H p (.lst ([V.ref c, .int i0, .int r0, .int sd0, .int n0].set 1 (.int (i0 + 1))))) p [.ref c, .int (i0 + 1), .int r0, .int sd0, .int n0] := SqL.of upd_same
        refine ⟨.ref p, rfl, p, _, 3, .int sd0, rfl, rfl, e3L, rfl, sd0, 46757, rfl, rfl, .inr ⟨by decide, by decide⟩, .int z, rfl, .inl ⟨z, rfl, z, 2147483323, rfl, rfl, (by show (0 : Int) < 2147483323; decide), _, _, rfl, rfl, _, 31, rfl, rfl, .inl ⟨_, rfl, _, 2147483549, rfl, rfl, (by show (0 : Int) < 2147483549; decide), .ref p, rfl, p, _, 3, 3, rfl, rfl, upd_same, rfl, ?_⟩⟩⟩
        generalize hg2 : (sd0 * 46757 + z % 2147483323 + 31) % 2147483549 = sd2
        have s2 : 0 ≤ sd2 := by rw [← hg2]; exact Int.emod_nonneg _ (by decide)
        have s3 : sd2 < 4294967296 := by rw [← hg2]; exact Int.lt_trans (Int.emod_lt_of_pos _ (by decide)) (by decide)
        dsimp only
        rw [hg2, upd_upd]
        refine ⟨.int z, rfl, 10, 18, rfl, rfl, ⟨by decide, by decide, by decide⟩, z, _, rfl, rfl, _, rfl, ite2 (fun h3 => ?_) (fun h3 => ?_)⟩
        · have hz : (10 : Int) ^ (18 : Int).toNat ≤ z := of_decide_eq_true h3
          refine ⟨.int z, rfl, .ref p, rfl, p, _, 2, 2, rfl, rfl, upd_same, rfl, ?_⟩
          rw [upd_upd]
          exact key _ (i0 + 1) z sd2 n0 (some (.int z)) ⟨fun b hb => upd_ne hb, upd_same, by omega, Int.le_trans (by decide) hz, s2, s3⟩
        · refine ⟨.ref p, rfl, p, _, 2, 2, rfl, rfl, upd_same, rfl, ?_⟩
          rw [upd_upd]
          exact key _ (i0 + 1) 0 sd2 n0 (some (.int z)) ⟨fun b hb => upd_ne hb, upd_same, by omega, by decide, s2, s3⟩
      · exact key H i0 r0 sd0 n0 none S0
    · refine iteF ?_
      exact key H i0 r0 sd0 n0 none S0
  · obtain ⟨m, rfl, _⟩ := h; rfl
theorem B_Problem___init___3 (T : Tx K mg a d) : Bd K (d i_Problem___init__) ["self", "size", "rows"] 3 [] [.pos 0, .pos 1, .pos 2] :=
  bd_dfl T.F_Problem___init__ (by simp) (fun us ws its => match us, ws, its with | [u0, u1, u2], [], [t0] => [u0, u1, u2] | _, _, _ => [])
    (fun _ _ _ _ _ _ _ us ws its h1 h2 h3 => match us, ws, its, h1, h2, h3 with | [_, _, _], [], [_], _, _, _ => ⟨_, rfl, rfl⟩)
    (fun vs qs us ws its h1 h2 r1 r2 r3 => match vs, us, qs, ws, its, h1, h2, r1, r2, r3 with | _, [_, _, _], _, [], [_], _, _, .cons u0 (.cons u1 (.cons u2 .nil)), .nil, .cons t0 .nil => .cons u0 (.cons u1 (.cons u2 .nil))) (fun s h v d e => by subst e; simp at h)
theorem B_Problem_keeps_1_loose_values (T : Tx K mg a d) : Bd K (d i_Problem_keeps) ["self", "values", "loose"] 1 ["loose", "values"] [.pos 0, .kw 1, .kw 0] :=
  bd_kw T.F_Problem_keeps [] (by simp) (by simp) (fun us mv ws => match us, mv, ws with | [u0], [], [w0, w1] => [u0, w1, w0] | _, _, _ => [])
    (fun {vs mz zs us mv ws} r1 r2 r3 => by
    rcases r1 with _ | ⟨a0, r1⟩ <;> (try rcases r1 with _ | ⟨a1, r1⟩) <;> (try rcases r1 with _ | ⟨a2, r1⟩) <;> (try rcases r1 with _ | ⟨a3, r1⟩) <;> (try rcases r1 with _ | ⟨a4, r1⟩) <;> rcases r2 with _ | ⟨b0, r2⟩ <;> (try rcases r2 with _ | ⟨b1, r2⟩) <;> rcases r3 with _ | ⟨c0, r3⟩ <;> (try rcases r3 with _ | ⟨c1, r3⟩) <;> (try rcases r3 with _ | ⟨c2, r3⟩) <;> first | exact .nil | (repeat (first | exact .nil | refine .cons (by assumption) ?_)))
    (fun _ _ _ _ _ _ us mv ws h1 h2 h3 => match us, mv, ws, h1, h2, h3 with | [_], [], [_, _], _, _, _ => rfl)
    (fun vs qs h1 h2 => match vs, qs, h1, h2 with | [_], [_, _], _, _ => rfl) (fun s h v d e => by subst e; simp at h)
theorem B_Problem_keeps_2 (T : Tx K mg a d) : Bd K (d i_Problem_keeps) ["self", "values", "loose"] 2 [] [.pos 0, .pos 1, .dfl (.bl false) (.bl false)] :=
  bd_kw T.F_Problem_keeps [("loose", .bl false)] (by simp) (by simp) (fun us mv ws => match us, mv, ws with | [u0, u1], [m0], [] => [u0, u1, m0] | _, _, _ => [])
    (fun {vs mz zs us mv ws} r1 r2 r3 => by
    rcases r1 with _ | ⟨a0, r1⟩ <;> (try rcases r1 with _ | ⟨a1, r1⟩) <;> (try rcases r1 with _ | ⟨a2, r1⟩) <;> (try rcases r1 with _ | ⟨a3, r1⟩) <;> (try rcases r1 with _ | ⟨a4, r1⟩) <;> rcases r2 with _ | ⟨b0, r2⟩ <;> (try rcases r2 with _ | ⟨b1, r2⟩) <;> rcases r3 with _ | ⟨c0, r3⟩ <;> (try rcases r3 with _ | ⟨c1, r3⟩) <;> (try rcases r3 with _ | ⟨c2, r3⟩) <;> first | exact .nil | (repeat (first | exact .nil | refine .cons (by assumption) ?_)))
    (fun _ _ _ _ _ _ us mv ws h1 h2 h3 => match us, mv, ws, h1, h2, h3 with | [_, _], [_], [], _, _, _ => ⟨_, _, _, _, _, _, rfl, rfl, rfl⟩)
    (fun vs qs h1 h2 => match vs, qs, h1, h2 with | [_, _], [], _, _ => rfl) (fun s h v d e => by subst e; simp at h; first | (obtain ⟨rfl, rfl⟩ := h; intro G; first | exact .int _ | exact .bl _ | exact .str _ | exact .non) | (rcases h with ⟨rfl, rfl⟩ | ⟨rfl, rfl⟩ <;> intro G <;> first | exact .int _ | exact .bl _ | exact .str _ | exact .non))
theorem B_Problem_keeps_2_loose (T : Tx K mg a d) : Bd K (d i_Problem_keeps) ["self", "values", "loose"] 2 ["loose"] [.pos 0, .pos 1, .kw 0] :=
  bd_kw T.F_Problem_keeps [] (by simp) (by simp) (fun us mv ws => match us, mv, ws with | [u0, u1], [], [w0] => [u0, u1, w0] | _, _, _ => [])
    (fun {vs mz zs us mv ws} r1 r2 r3 => by
    rcases r1 with _ | ⟨a0, r1⟩ <;> (try rcases r1 with _ | ⟨a1, r1⟩) <;> (try rcases r1 with _ | ⟨a2, r1⟩) <;> (try rcases r1 with _ | ⟨a3, r1⟩) <;> (try rcases r1 with _ | ⟨a4, r1⟩) <;> rcases r2 with _ | ⟨b0, r2⟩ <;> (try rcases r2 with _ | ⟨b1, r2⟩) <;> rcases r3 with _ | ⟨c0, r3⟩ <;> (try rcases r3 with _ | ⟨c1, r3⟩) <;> (try rcases r3 with _ | ⟨c2, r3⟩) <;> first | exact .nil | (repeat (first | exact .nil | refine .cons (by assumption) ?_)))
    (fun _ _ _ _ _ _ us mv ws h1 h2 h3 => match us, mv, ws, h1, h2, h3 with | [_, _], [], [_], _, _, _ => rfl)
    (fun vs qs h1 h2 => match vs, qs, h1, h2 with | [_, _], [_], _, _ => rfl) (fun s h v d e => by subst e; simp at h)
theorem B__law_dot_2 (T : Tx K mg a d) : Bd K (d i__law_dot) ["_law_one", "_law_other"] 2 [] [.pos 0, .pos 1] :=
  bd_of T.F__law_dot (fun us ws => match us, ws with | [u0, u1], [] => [u0, u1] | _, _ => [])
    (fun _ _ _ _ _ _ us ws h1 h2 => match us, ws, h1, h2 with | [_, _], [], _, _ => rfl)
    (fun vs qs us ws h1 h2 r1 r2 => match vs, us, qs, ws, h1, h2, r1, r2 with | _, [_, _], _, [], _, _, .cons u0 (.cons u1 .nil), .nil => .cons u0 (.cons u1 .nil)) (fun s h v d e => by subst e; simp at h)
theorem B__law_draw_2 (T : Tx K mg a d) : Bd K (d i__law_draw) ["_law_src", "_law_many"] 2 [] [.pos 0, .pos 1] :=
  bd_of T.F__law_draw (fun us ws => match us, ws with | [u0, u1], [] => [u0, u1] | _, _ => [])
    (fun _ _ _ _ _ _ us ws h1 h2 => match us, ws, h1, h2 with | [_, _], [], _, _ => rfl)
    (fun vs qs us ws h1 h2 r1 r2 => match vs, us, qs, ws, h1, h2, r1, r2 with | _, [_, _], _, [], _, _, .cons u0 (.cons u1 .nil), .nil => .cons u0 (.cons u1 .nil)) (fun s h v d e => by subst e; simp at h)
theorem B__law_gain_1 (T : Tx K mg a d) : Bd K (d i__law_gain) ["_law_src"] 1 [] [.pos 0] :=
  bd_of T.F__law_gain (fun us ws => match us, ws with | [u0], [] => [u0] | _, _ => [])
    (fun _ _ _ _ _ _ us ws h1 h2 => match us, ws, h1, h2 with | [_], [], _, _ => rfl)
    (fun vs qs us ws h1 h2 r1 r2 => match vs, us, qs, ws, h1, h2, r1, r2 with | _, [_], _, [], _, _, .cons u0 .nil, .nil => .cons u0 .nil) (fun s h v d e => by subst e; simp at h)
theorem B__law_keeps_3 (T : Tx K mg a d) : Bd K (d i__law_keeps) ["_law_rows_here", "_law_values_z", "_law_loose_z"] 3 [] [.pos 0, .pos 1, .pos 2] :=
  bd_of T.F__law_keeps (fun us ws => match us, ws with | [u0, u1, u2], [] => [u0, u1, u2] | _, _ => [])
    (fun _ _ _ _ _ _ us ws h1 h2 => match us, ws, h1, h2 with | [_, _, _], [], _, _ => rfl)
    (fun vs qs us ws h1 h2 r1 r2 => match vs, us, qs, ws, h1, h2, r1, r2 with | _, [_, _, _], _, [], _, _, .cons u0 (.cons u1 (.cons u2 .nil)), .nil => .cons u0 (.cons u1 (.cons u2 .nil))) (fun s h v d e => by subst e; simp at h)
theorem B__law_length_1 (T : Tx K mg a d) : Bd K (d i__law_length) ["_law_src"] 1 [] [.pos 0] :=
  bd_of T.F__law_length (fun us ws => match us, ws with | [u0], [] => [u0] | _, _ => [])
    (fun _ _ _ _ _ _ us ws h1 h2 => match us, ws, h1, h2 with | [_], [], _, _ => rfl)
    (fun vs qs us ws h1 h2 r1 r2 => match vs, us, qs, ws, h1, h2, r1, r2 with | _, [_], _, [], _, _, .cons u0 .nil, .nil => .cons u0 .nil) (fun s h v d e => by subst e; simp at h)
theorem B__law_less_2 (T : Tx K mg a d) : Bd K (d i__law_less) ["_law_one", "_law_other"] 2 [] [.pos 0, .pos 1] :=
  bd_of T.F__law_less (fun us ws => match us, ws with | [u0, u1], [] => [u0, u1] | _, _ => [])
    (fun _ _ _ _ _ _ us ws h1 h2 => match us, ws, h1, h2 with | [_, _], [], _, _ => rfl)
    (fun vs qs us ws h1 h2 r1 r2 => match vs, us, qs, ws, h1, h2, r1, r2 with | _, [_, _], _, [], _, _, .cons u0 (.cons u1 .nil), .nil => .cons u0 (.cons u1 .nil)) (fun s h v d e => by subst e; simp at h)
theorem B__law_low_2 (T : Tx K mg a d) : Bd K (d i__law_low) ["_law_top", "_law_bottom"] 2 [] [.pos 0, .pos 1] :=
  bd_of T.F__law_low (fun us ws => match us, ws with | [u0, u1], [] => [u0, u1] | _, _ => [])
    (fun _ _ _ _ _ _ us ws h1 h2 => match us, ws, h1, h2 with | [_, _], [], _, _ => rfl)
    (fun vs qs us ws h1 h2 r1 r2 => match vs, us, qs, ws, h1, h2, r1, r2 with | _, [_, _], _, [], _, _, .cons u0 (.cons u1 .nil), .nil => .cons u0 (.cons u1 .nil)) (fun s h v d e => by subst e; simp at h)
theorem B__law_minus_1 (T : Tx K mg a d) : Bd K (d i__law_minus) ["_law_one"] 1 [] [.pos 0] :=
  bd_of T.F__law_minus (fun us ws => match us, ws with | [u0], [] => [u0] | _, _ => [])
    (fun _ _ _ _ _ _ us ws h1 h2 => match us, ws, h1, h2 with | [_], [], _, _ => rfl)
    (fun vs qs us ws h1 h2 r1 r2 => match vs, us, qs, ws, h1, h2, r1, r2 with | _, [_], _, [], _, _, .cons u0 .nil, .nil => .cons u0 .nil) (fun s h v d e => by subst e; simp at h)
theorem B__law_of_2 (T : Tx K mg a d) : Bd K (d i__law_of) ["_law_src", "_law_some"] 2 [] [.pos 0, .pos 1] :=
  bd_of T.F__law_of (fun us ws => match us, ws with | [u0, u1], [] => [u0, u1] | _, _ => [])
    (fun _ _ _ _ _ _ us ws h1 h2 => match us, ws, h1, h2 with | [_, _], [], _, _ => rfl)
    (fun vs qs us ws h1 h2 r1 r2 => match vs, us, qs, ws, h1, h2, r1, r2 with | _, [_, _], _, [], _, _, .cons u0 (.cons u1 .nil), .nil => .cons u0 (.cons u1 .nil)) (fun s h v d e => by subst e; simp at h)
theorem B__law_plus_2 (T : Tx K mg a d) : Bd K (d i__law_plus) ["_law_one", "_law_other"] 2 [] [.pos 0, .pos 1] :=
  bd_of T.F__law_plus (fun us ws => match us, ws with | [u0, u1], [] => [u0, u1] | _, _ => [])
    (fun _ _ _ _ _ _ us ws h1 h2 => match us, ws, h1, h2 with | [_, _], [], _, _ => rfl)
    (fun vs qs us ws h1 h2 r1 r2 => match vs, us, qs, ws, h1, h2, r1, r2 with | _, [_, _], _, [], _, _, .cons u0 (.cons u1 .nil), .nil => .cons u0 (.cons u1 .nil)) (fun s h v d e => by subst e; simp at h)
theorem B__law_rows_3 (T : Tx K mg a d) : Bd K (d i__law_rows) ["_law_src", "_law_size", "_law_many"] 3 [] [.pos 0, .pos 1, .pos 2] :=
  bd_of T.F__law_rows (fun us ws => match us, ws with | [u0, u1, u2], [] => [u0, u1, u2] | _, _ => [])
    (fun _ _ _ _ _ _ us ws h1 h2 => match us, ws, h1, h2 with | [_, _, _], [], _, _ => rfl)
    (fun vs qs us ws h1 h2 r1 r2 => match vs, us, qs, ws, h1, h2, r1, r2 with | _, [_, _, _], _, [], _, _, .cons u0 (.cons u1 (.cons u2 .nil)), .nil => .cons u0 (.cons u1 (.cons u2 .nil))) (fun s h v d e => by subst e; simp at h)
theorem B__law_same_2 (T : Tx K mg a d) : Bd K (d i__law_same) ["_law_found", "_law_due"] 2 [] [.pos 0, .pos 1] :=
  bd_of T.F__law_same (fun us ws => match us, ws with | [u0, u1], [] => [u0, u1] | _, _ => [])
    (fun _ _ _ _ _ _ us ws h1 h2 => match us, ws, h1, h2 with | [_, _], [], _, _ => rfl)
    (fun vs qs us ws h1 h2 r1 r2 => match vs, us, qs, ws, h1, h2, r1, r2 with | _, [_, _], _, [], _, _, .cons u0 (.cons u1 .nil), .nil => .cons u0 (.cons u1 .nil)) (fun s h v d e => by subst e; simp at h)
theorem B__law_times_2 (T : Tx K mg a d) : Bd K (d i__law_times) ["_law_one", "_law_other"] 2 [] [.pos 0, .pos 1] :=
  bd_of T.F__law_times (fun us ws => match us, ws with | [u0, u1], [] => [u0, u1] | _, _ => [])
    (fun _ _ _ _ _ _ us ws h1 h2 => match us, ws, h1, h2 with | [_, _], [], _, _ => rfl)
    (fun vs qs us ws h1 h2 r1 r2 => match vs, us, qs, ws, h1, h2, r1, r2 with | _, [_, _], _, [], _, _, .cons u0 (.cons u1 .nil), .nil => .cons u0 (.cons u1 .nil)) (fun s h v d e => by subst e; simp at h)
theorem B__law_total_1 (T : Tx K mg a d) : Bd K (d i__law_total) ["_law_pairs"] 1 [] [.pos 0] :=
  bd_of T.F__law_total (fun us ws => match us, ws with | [u0], [] => [u0] | _, _ => [])
    (fun _ _ _ _ _ _ us ws h1 h2 => match us, ws, h1, h2 with | [_], [], _, _ => rfl)
    (fun vs qs us ws h1 h2 r1 r2 => match vs, us, qs, ws, h1, h2, r1, r2 with | _, [_], _, [], _, _, .cons u0 .nil, .nil => .cons u0 .nil) (fun s h v d e => by subst e; simp at h)
theorem B_below_2 (T : Tx K mg a d) : Bd K (d i_below) ["one", "other"] 2 [] [.pos 0, .pos 1] :=
  bd_of T.F_below (fun us ws => match us, ws with | [u0, u1], [] => [u0, u1] | _, _ => [])
    (fun _ _ _ _ _ _ us ws h1 h2 => match us, ws, h1, h2 with | [_, _], [], _, _ => rfl)
    (fun vs qs us ws h1 h2 r1 r2 => match vs, us, qs, ws, h1, h2, r1, r2 with | _, [_, _], _, [], _, _, .cons u0 (.cons u1 .nil), .nil => .cons u0 (.cons u1 .nil)) (fun s h v d e => by subst e; simp at h)
theorem B_dot_2 (T : Tx K mg a d) : Bd K (d i_dot) ["one", "other"] 2 [] [.pos 0, .pos 1] :=
  bd_of T.F_dot (fun us ws => match us, ws with | [u0, u1], [] => [u0, u1] | _, _ => [])
    (fun _ _ _ _ _ _ us ws h1 h2 => match us, ws, h1, h2 with | [_, _], [], _, _ => rfl)
    (fun vs qs us ws h1 h2 r1 r2 => match vs, us, qs, ws, h1, h2, r1, r2 with | _, [_, _], _, [], _, _, .cons u0 (.cons u1 .nil), .nil => .cons u0 (.cons u1 .nil)) (fun s h v d e => by subst e; simp at h)
theorem B_is_number_3 (T : Tx K mg a d) : Bd K (d i_is_number) ["value", "least", "most"] 3 [] [.pos 0, .pos 1, .pos 2] :=
  bd_of T.F_is_number (fun us ws => match us, ws with | [u0, u1, u2], [] => [u0, u1, u2] | _, _ => [])
    (fun _ _ _ _ _ _ us ws h1 h2 => match us, ws, h1, h2 with | [_, _, _], [], _, _ => rfl)
    (fun vs qs us ws h1 h2 r1 r2 => match vs, us, qs, ws, h1, h2, r1, r2 with | _, [_, _, _], _, [], _, _, .cons u0 (.cons u1 (.cons u2 .nil)), .nil => .cons u0 (.cons u1 (.cons u2 .nil))) (fun s h v d e => by subst e; simp at h)
theorem B_is_ratio_1 (T : Tx K mg a d) : Bd K (d i_is_ratio) ["value"] 1 [] [.pos 0] :=
  bd_of T.F_is_ratio (fun us ws => match us, ws with | [u0], [] => [u0] | _, _ => [])
    (fun _ _ _ _ _ _ us ws h1 h2 => match us, ws, h1, h2 with | [_], [], _, _ => rfl)
    (fun vs qs us ws h1 h2 r1 r2 => match vs, us, qs, ws, h1, h2, r1, r2 with | _, [_], _, [], _, _, .cons u0 .nil, .nil => .cons u0 .nil) (fun s h v d e => by subst e; simp at h)
theorem B_is_row_2 (T : Tx K mg a d) : Bd K (d i_is_row) ["value", "size"] 2 [] [.pos 0, .pos 1] :=
  bd_of T.F_is_row (fun us ws => match us, ws with | [u0, u1], [] => [u0, u1] | _, _ => [])
    (fun _ _ _ _ _ _ us ws h1 h2 => match us, ws, h1, h2 with | [_, _], [], _, _ => rfl)
    (fun vs qs us ws h1 h2 r1 r2 => match vs, us, qs, ws, h1, h2, r1, r2 with | _, [_, _], _, [], _, _, .cons u0 (.cons u1 .nil), .nil => .cons u0 (.cons u1 .nil)) (fun s h v d e => by subst e; simp at h)
theorem B_is_valued_1 (T : Tx K mg a d) : Bd K (d i_is_valued) ["value"] 1 [] [.pos 0] :=
  bd_of T.F_is_valued (fun us ws => match us, ws with | [u0], [] => [u0] | _, _ => [])
    (fun _ _ _ _ _ _ us ws h1 h2 => match us, ws, h1, h2 with | [_], [], _, _ => rfl)
    (fun vs qs us ws h1 h2 r1 r2 => match vs, us, qs, ws, h1, h2, r1, r2 with | _, [_], _, [], _, _, .cons u0 .nil, .nil => .cons u0 .nil) (fun s h v d e => by subst e; simp at h)
theorem B_is_whole_1 (T : Tx K mg a d) : Bd K (d i_is_whole) ["value"] 1 [] [.pos 0] :=
  bd_of T.F_is_whole (fun us ws => match us, ws with | [u0], [] => [u0] | _, _ => [])
    (fun _ _ _ _ _ _ us ws h1 h2 => match us, ws, h1, h2 with | [_], [], _, _ => rfl)
    (fun vs qs us ws h1 h2 r1 r2 => match vs, us, qs, ws, h1, h2, r1, r2 with | _, [_], _, [], _, _, .cons u0 .nil, .nil => .cons u0 .nil) (fun s h v d e => by subst e; simp at h)
theorem B_lowest_2 (T : Tx K mg a d) : Bd K (d i_lowest) ["top", "bottom"] 2 [] [.pos 0, .pos 1] :=
  bd_of T.F_lowest (fun us ws => match us, ws with | [u0, u1], [] => [u0, u1] | _, _ => [])
    (fun _ _ _ _ _ _ us ws h1 h2 => match us, ws, h1, h2 with | [_, _], [], _, _ => rfl)
    (fun vs qs us ws h1 h2 r1 r2 => match vs, us, qs, ws, h1, h2, r1, r2 with | _, [_, _], _, [], _, _, .cons u0 (.cons u1 .nil), .nil => .cons u0 (.cons u1 .nil)) (fun s h v d e => by subst e; simp at h)
theorem B_plus_2 (T : Tx K mg a d) : Bd K (d i_plus) ["one", "other"] 2 [] [.pos 0, .pos 1] :=
  bd_of T.F_plus (fun us ws => match us, ws with | [u0, u1], [] => [u0, u1] | _, _ => [])
    (fun _ _ _ _ _ _ us ws h1 h2 => match us, ws, h1, h2 with | [_, _], [], _, _ => rfl)
    (fun vs qs us ws h1 h2 r1 r2 => match vs, us, qs, ws, h1, h2, r1, r2 with | _, [_, _], _, [], _, _, .cons u0 (.cons u1 .nil), .nil => .cons u0 (.cons u1 .nil)) (fun s h v d e => by subst e; simp at h)
theorem B_ratio_of_1 (T : Tx K mg a d) : Bd K (d i_ratio_of) ["value"] 1 [] [.pos 0] :=
  bd_of T.F_ratio_of (fun us ws => match us, ws with | [u0], [] => [u0] | _, _ => [])
    (fun _ _ _ _ _ _ us ws h1 h2 => match us, ws, h1, h2 with | [_], [], _, _ => rfl)
    (fun vs qs us ws h1 h2 r1 r2 => match vs, us, qs, ws, h1, h2, r1, r2 with | _, [_], _, [], _, _, .cons u0 .nil, .nil => .cons u0 .nil) (fun s h v d e => by subst e; simp at h)
theorem B_times_2 (T : Tx K mg a d) : Bd K (d i_times) ["one", "other"] 2 [] [.pos 0, .pos 1] :=
  bd_of T.F_times (fun us ws => match us, ws with | [u0, u1], [] => [u0, u1] | _, _ => [])
    (fun _ _ _ _ _ _ us ws h1 h2 => match us, ws, h1, h2 with | [_, _], [], _, _ => rfl)
    (fun vs qs us ws h1 h2 r1 r2 => match vs, us, qs, ws, h1, h2, r1, r2 with | _, [_, _], _, [], _, _, .cons u0 (.cons u1 .nil), .nil => .cons u0 (.cons u1 .nil)) (fun s h v d e => by subst e; simp at h)
/-! ### _law_of -/
abbrev n__law_of : List Str := ["_law_src", "_law_some"]
theorem sc__law_of : FnScope n__law_of ["_law_src", "_law_some"] (defScope s__law_of) := ⟨rfl, rfl, rfl, by decide +kernel, rfl, by decide +kernel, by decide +kernel⟩
theorem ok__law_of (T : Tx K mg a d) : FnG P w K mg base 2 (a i__law_of) (d i__law_of) ["_law_src", "_law_some"] spOf := by
  have G__law_draw : FnG P w K mg base 1 (a i__law_draw) (d i__law_draw) ["_law_src", "_law_many"] spDraw := ok__law_draw T
  refine fnG_of T.F__law_of sc__law_of (fun args Q E h => ?_) (fun args Q E h => ?_) (fun cdv A outer s H E hr hg => (ds_one (ds_ret (de_ix ix_seq sem_ix (de_see (pv 1)) (de_call G__law_draw (hr.mono (by decide)) hg (takes_of rfl rfl rfl rfl) (B__law_draw_2 T) (by rfl) T.m__law_draw T.F__law_draw.kp (da_cons (de_var (pv 0)) (da_cons (de_callB call_len sem_len (by rfl) T.n_len PySem.boot_len (da_cons (de_see (pv 1)) da_nil)) da_nil))) (fun _ _ => rfl))))) (fun args Q E h => ?_)
  · obtain ⟨x, rfl, _⟩ := h; rfl
  · obtain ⟨x, rfl, hx, _⟩ := h
    intro i o z
    match i with
    | 0 => cases z
    | 1 => exact hx o (Option.some.inj z)
    | i + 2 => simp at z
  · obtain ⟨x, rfl, hx, h⟩ := h
    cases x with
    | src => exact h.elim
    | own o =>
      cases o with
      | lst ds =>
        obtain ⟨h1, h2, h3⟩ := h
        refine l_lenL rfl ?_
        refine ⟨rfl, rfl, _, rfl, by omega, small_len h2, fun n h0 h4 => ?_⟩
        obtain ⟨y, e1, e2⟩ := at_mem h0 h4
        exact l_ixL rfl e1 (h3 y e2)
      | ins _ _ _ => exact h.elim
    | bor o =>
      cases o with
      | lst ds =>
        obtain ⟨h1, h2, h3⟩ := h
        refine l_lenL rfl ?_
        refine ⟨rfl, rfl, _, rfl, by omega, small_len h2, fun n h0 h4 => ?_⟩
        obtain ⟨y, e1, e2⟩ := at_mem h0 h4
        exact l_ixL rfl e1 (h3 y e2)
      | ins _ _ _ => exact h.elim
    | see o => exact absurd rfl (hx o)
    | d y =>
      cases y with
      | str z =>
        obtain ⟨h1, h2, h3⟩ := h
        refine l_lenS h2 ?_
        refine ⟨rfl, rfl, _, rfl, by omega, small_len h2, fun n h0 h4 => ?_⟩
        obtain ⟨y, e1, e2⟩ := at_mem (xs := z.cps.toList) h0 (by simpa [Str.length] using h4)
        exact l_ixS h2 e1 (h3 y e2)
      | tup ds =>
        obtain ⟨h1, h2, h3⟩ := h
        refine l_lenT ?_
        refine ⟨rfl, rfl, _, rfl, by omega, small_len h2, fun n h0 h4 => ?_⟩
        obtain ⟨y, e1, e2⟩ := at_mem h0 h4
        exact l_ixT e1 (h3 y e2)
      | lst ds =>
        obtain ⟨h1, h2, h3⟩ := h
        refine l_lenL rfl ?_
        refine ⟨rfl, rfl, _, rfl, by omega, small_len h2, fun n h0 h4 => ?_⟩
        obtain ⟨y, e1, e2⟩ := at_mem h0 h4
        exact l_ixL rfl e1 (h3 y e2)
      | non => exact h.elim
      | bl _ => exact h.elim
      | int _ => exact h.elim
      | ins _ _ => exact h.elim
      | raw _ => exact h.elim
/-! ### _law_same -/
abbrev n__law_same : List Str := ["_law_found", "_law_due"]
theorem sc__law_same : FnScope n__law_same ["_law_found", "_law_due"] (defScope s__law_same) := ⟨rfl, rfl, rfl, by decide +kernel, rfl, by decide +kernel, by decide +kernel⟩
theorem ok__law_same (T : Tx K mg a d) : FnG P w K mg base 1 (a i__law_same) (d i__law_same) ["_law_found", "_law_due"] spSame := by
  refine fnG_of T.F__law_same sc__law_same (fun args Q E h => ?_) (fun args Q E h => ?_) (fun cdv A outer s H E hr hg => (ds_one (ds_ret (de_cmp (op_eqAll hr.units) sem_eq (de_callB (call_reprD hg (room65 hr)) sem_repr (by rfl) T.n_repr (by decide +kernel) (da_cons (de_see (pv 0)) da_nil)) (de_callB (call_reprD hg (room65 hr)) sem_repr (by rfl) T.n_repr (by decide +kernel) (da_cons (de_see (pv 1)) da_nil)) (nomark _))))) (fun args Q E h => ?_)
  · obtain ⟨_, _, _, _, rfl, _⟩ := h; rfl
  · obtain ⟨_, _, _, _, rfl, _⟩ := h
    intro i o z
    match i with
    | 0 => cases z
    | 1 => cases z
    | i + 2 => simp at z
  · obtain ⟨d1, d2, p, q, rfl, s1, s2, h⟩ := h
    show reprR [.d d1] (fun x => reprR [.d d2] (fun y => eqR false x y (retQ Q)))
    exact repr_ok s1 (repr_ok s2 (l_eqS h))
end
end K08

set_option Elab.async false
set_option linter.all false
set_option maxRecDepth 100000
set_option maxHeartbeats 4000000
namespace K08
open PySem PySem.Spec PyProof.Rows L2 DL
section
variable {P : Program} {w : World} {K : PySem.W.Frag} {mg : Str → Option Value} {base : Heap} {a : Nat → Addr} {d : Nat → FuncData}
/-! ### is_whole -/
abbrev n_is_whole : List Str := ["value"]
theorem sc_is_whole : FnScope n_is_whole ["value"] (defScope s_is_whole) := ⟨rfl, rfl, rfl, by decide +kernel, rfl, by decide +kernel, by decide +kernel⟩
theorem ok_is_whole (T : Tx K mg a d) : FnG P w K mg base 1 (a i_is_whole) (d i_is_whole) ["value"] spWhole := by
  refine fnG_of T.F_is_whole sc_is_whole (fun args Q E h => ?_) (fun args Q E h => ?_) (fun cdv A outer s H E hr hg => (ds_one (ds_ret (de_and (de_callB call_isi sem_isi (by rfl) T.n_isinstance (by decide +kernel) (da_cons (de_see (pv 0)) (da_cons (de_ty (T := "int") (by rfl) T.n_int (by decide +kernel)) da_nil))) (de_one (de_not (de_callB call_isi sem_isi (by rfl) T.n_isinstance (by decide +kernel) (da_cons (de_see (pv 0)) (da_cons (de_ty (T := "bool") (by rfl) T.n_bool (by decide +kernel)) da_nil))))))))) (fun args Q E h => ?_)
  · obtain ⟨_, rfl, _⟩ := h; rfl
  · obtain ⟨_, rfl, _⟩ := h
    intro i o z
    match i with
    | 0 => cases z
    | i + 1 => simp at z
  · obtain ⟨x, rfl, k, h⟩ := h
    cases x with
    | int i =>
      refine isi_ok (x := .d (.int i)) (T := "int") rfl rfl k_int_int (brT ?_)
      refine isi_ok (x := .d (.int i)) (T := "bool") rfl rfl k_int_bool ?_
      exact l_truB h
    | bl b =>
      refine isi_ok (x := .d (.bl b)) (T := "int") rfl rfl k_bool_int (brT ?_)
      refine isi_ok (x := .d (.bl b)) (T := "bool") rfl rfl k_bool_bool ?_
      exact l_truB h
    | non => exact isi_ok (x := .d .non) (T := "int") rfl rfl k_non_int (brF h)
    | str z => exact isi_ok (x := .d (.str z)) (T := "int") rfl rfl k_str_int (brF h)
    | lst ds => exact isi_ok (x := .d (.lst ds)) (T := "int") rfl rfl k_list_int (brF h)
    | tup ds => exact isi_ok (x := .d (.tup ds)) (T := "int") rfl rfl k_tuple_int (brF h)
    | ins _ _ => cases k
    | raw _ => cases k
/-! ### is_number -/
abbrev n_is_number : List Str := ["value", "least", "most"]
theorem sc_is_number : FnScope n_is_number ["value", "least", "most"] (defScope s_is_number) := ⟨rfl, rfl, rfl, by decide +kernel, rfl, by decide +kernel, by decide +kernel⟩
theorem ok_is_number (T : Tx K mg a d) : FnG P w K mg base 2 (a i_is_number) (d i_is_number) ["value", "least", "most"] spNumber := by
  have G_is_whole : FnG P w K mg base 1 (a i_is_whole) (d i_is_whole) ["value"] spWhole := ok_is_whole T
  refine fnG_of T.F_is_number sc_is_number (fun args Q E h => ?_) (fun args Q E h => ?_) (fun cdv A outer s H E hr hg => (ds_one (ds_ret (de_and (de_call G_is_whole (hr.mono (by decide)) hg (takes_of rfl rfl rfl rfl) (B_is_whole_1 T) (by rfl) T.m_is_whole T.F_is_whole.kp (da_cons (de_var (pv 0)) da_nil)) (de_one (de_chain op_le (sem_intR0 fun _ _ _ => .bl _) op_le (sem_intR0 fun _ _ _ => .bl _) (de_see (pv 1)) (de_see (pv 0)) (de_see (pv 2)))))))) (fun args Q E h => ?_)
  · obtain ⟨_, _, _, rfl, _⟩ := h; rfl
  · obtain ⟨_, _, _, rfl, _⟩ := h
    intro i o z
    match i with
    | 0 => cases z
    | 1 => cases z
    | 2 => cases z
    | i + 3 => simp at z
  · obtain ⟨x, lo, hi, rfl, k, h⟩ := h
    refine ⟨rfl, rfl, x, rfl, k, ?_⟩
    cases x with
    | int i =>
      refine brT ?_
      refine l_int0 ?_
      have e : numD lo hi (.int i) = (decide (lo ≤ i) && decide (i ≤ hi)) := rfl
      rw [e] at h
      refine br (fun h1 => ?_) (fun h1 => ?_)
      · refine l_int0 ?_
        rw [h1, Bool.true_and] at h
        exact h
      · rw [h1, Bool.false_and] at h
        exact h
    | non => exact brF h
    | bl b => exact brF h
    | str z => exact brF h
    | lst ds => exact brF h
    | tup ds => exact brF h
    | ins _ _ => cases k
    | raw _ => cases k
/-! ### is_ratio -/
abbrev n_is_ratio : List Str := ["value"]
theorem sc_is_ratio : FnScope n_is_ratio ["value"] (defScope s_is_ratio) := ⟨rfl, rfl, rfl, by decide +kernel, rfl, by decide +kernel, by decide +kernel⟩
theorem ok_is_ratio (T : Tx K mg a d) : FnG P w K mg base 2 (a i_is_ratio) (d i_is_ratio) ["value"] spRatio := by
  have G_is_whole : FnG P w K mg base 1 (a i_is_whole) (d i_is_whole) ["value"] spWhole := ok_is_whole T
  refine fnG_of T.F_is_ratio sc_is_ratio (fun args Q E h => ?_) (fun args Q E h => ?_) (fun cdv A outer s H E hr hg => (ds_cons (ds_if (DW.dt (dw_or (dt_not (dt_val (de_callB call_isi sem_isi (by rfl) T.n_isinstance (by decide +kernel) (da_cons (de_see (pv 0)) (da_cons (de_ty (T := "tuple") (by rfl) T.n_tuple (by decide +kernel)) da_nil))))) (dw_or (dt_cmp (op_neAll hr.units) sem_ne (de_callB call_len sem_len (by rfl) T.n_len PySem.boot_len (da_cons (de_see (pv 0)) da_nil)) de_int (nomark _)) (dw_or (dt_not (dt_val (de_call G_is_whole (hr.mono (by decide)) hg (takes_of rfl rfl rfl rfl) (B_is_whole_1 T) (by rfl) T.m_is_whole T.F_is_whole.kp (da_cons (de_ix ix_seq sem_ix (de_see (pv 0)) de_int (fun _ _ => rfl)) da_nil)))) (dw_or1 (dt_not (dt_val (de_call G_is_whole (hr.mono (by decide)) hg (takes_of rfl rfl rfl rfl) (B_is_whole_1 T) (by rfl) T.m_is_whole T.F_is_whole.kp (da_cons (de_ix ix_seq sem_ix (de_see (pv 0)) de_int (fun _ _ => rfl)) da_nil))))))))) (ds_one (ds_ret de_bl)) ds_nil)
      (ds_one (ds_ret (de_and (de_cmp op_ge (sem_intR0 fun _ _ _ => .bl _) (de_ix ix_seq sem_ix (de_see (pv 0)) de_int (fun _ _ => rfl)) de_int (nomark _)) (de_one (de_cmp (op_eqAll hr.units) sem_eq (de_callF cr_gcd sem_gcd (by rfl) T.b_gcd (da_cons (de_ix ix_seq sem_ix (de_see (pv 0)) de_int (fun _ _ => rfl)) (da_cons (de_ix ix_seq sem_ix (de_see (pv 0)) de_int (fun _ _ => rfl)) da_nil))) de_int (nomark _)))))))) (fun args Q E h => ?_)
  · obtain ⟨_, rfl, _⟩ := h; rfl
  · obtain ⟨_, rfl, _⟩ := h
    intro i o z
    match i with
    | 0 => cases z
    | i + 1 => simp at z
  · obtain ⟨x, rfl, k, k2, h⟩ := h
    cases x with
    | tup ds =>
      refine isi_ok (x := .d (.tup ds)) (T := "tuple") rfl rfl k_tuple_tuple ?_
      refine l_truB (brF ?_)
      refine l_lenT ?_
      refine l_eqI ?_
      match ds, k2, h with
      | [], _, h => exact brT (brT h)
      | [x], _, h =>
        rw [ratioD_ne (by simp)] at h
        exact brT (brT h)
      | _ :: _ :: _ :: r, _, h =>
        rw [ratioD_ne (by simp)] at h
        show Br (!decide (((r.length + 1 + 1 + 1 : Nat) : Int) = 2)) _ _
        rw [decide_eq_false (by omega)]
        exact brT (brT h)
      | [x, y], k2, h =>
        refine brF ?_
        refine l_ixT rfl ?_
        refine ⟨rfl, rfl, x, rfl, k2.1, ?_⟩
        refine l_truB ?_
        cases x with
        | int i =>
          refine brF ?_
          refine l_ixT rfl ?_
          refine ⟨rfl, rfl, y, rfl, k2.2, ?_⟩
          refine l_truB ?_
          cases y with
          | int j =>
            refine brF ?_
            refine l_ixT rfl ?_
            refine l_int0 ?_
            have e : ratioD (.tup [.int i, .int j]) = (decide (1 ≤ j) && decide (gcI i j = 1)) := rfl
            rw [e] at h
            refine br (fun h1 => ?_) (fun h1 => ?_)
            · refine l_ixT rfl ?_
              refine l_ixT rfl ?_
              refine l_gcd ?_
              refine l_eqI ?_
              rw [h1, Bool.true_and] at h
              exact h
            · rw [h1, Bool.false_and] at h
              exact h
          | non => exact brT h
          | bl b => exact brT h
          | str z => exact brT h
          | lst ds => exact brT h
          | tup ds => exact brT h
          | ins _ _ => cases k2.2
          | raw _ => cases k2.2
        | non => exact brT (brT h)
        | bl b => exact brT (brT h)
        | str z => exact brT (brT h)
        | lst ds => exact brT (brT h)
        | tup ds => exact brT (brT h)
        | ins _ _ => cases k2.1
        | raw _ => cases k2.1
    | int i => exact isi_ok (x := .d (.int i)) (T := "tuple") rfl rfl k_int_tuple (l_truB (brT (brT h)))
    | bl b => exact isi_ok (x := .d (.bl b)) (T := "tuple") rfl rfl k_bool_tuple (l_truB (brT (brT h)))
    | non => exact isi_ok (x := .d .non) (T := "tuple") rfl rfl k_non_tuple (l_truB (brT (brT h)))
    | str z => exact isi_ok (x := .d (.str z)) (T := "tuple") rfl rfl k_str_tuple (l_truB (brT (brT h)))
    | lst ds => exact isi_ok (x := .d (.lst ds)) (T := "tuple") rfl rfl k_list_tuple (l_truB (brT (brT h)))
    | ins _ _ => cases k
    | raw _ => cases k
/-! ### is_valued -/
abbrev n_is_valued : List Str := ["value"]
theorem sc_is_valued : FnScope n_is_valued ["value"] (defScope s_is_valued) := ⟨rfl, rfl, rfl, by decide +kernel, rfl, by decide +kernel, by decide +kernel⟩
theorem ok_is_valued (T : Tx K mg a d) : FnG P w K mg base 3 (a i_is_valued) (d i_is_valued) ["value"] spValued := by
  have G_is_whole : FnG P w K mg base 1 (a i_is_whole) (d i_is_whole) ["value"] spWhole := ok_is_whole T
  have G_is_ratio : FnG P w K mg base 2 (a i_is_ratio) (d i_is_ratio) ["value"] spRatio := ok_is_ratio T
  refine fnG_of T.F_is_valued sc_is_valued (fun args Q E h => ?_) (fun args Q E h => ?_) (fun cdv A outer s H E hr hg => (ds_one (ds_ret (de_or (de_call G_is_whole (hr.mono (by decide)) hg (takes_of rfl rfl rfl rfl) (B_is_whole_1 T) (by rfl) T.m_is_whole T.F_is_whole.kp (da_cons (de_var (pv 0)) da_nil)) (de_one (de_call G_is_ratio (hr.mono (by decide)) hg (takes_of rfl rfl rfl rfl) (B_is_ratio_1 T) (by rfl) T.m_is_ratio T.F_is_ratio.kp (da_cons (de_var (pv 0)) da_nil))))))) (fun args Q E h => ?_)
  · obtain ⟨_, rfl, _⟩ := h; rfl
  · obtain ⟨_, rfl, _⟩ := h
    intro i o z
    match i with
    | 0 => cases z
    | i + 1 => simp at z
  · obtain ⟨x, rfl, k, k2, h⟩ := h
    refine ⟨rfl, rfl, x, rfl, k, ?_⟩
    cases e : wholeD x with
    | true => rw [e, Bool.true_or] at h; exact brT h
    | false =>
      rw [e, Bool.false_or] at h
      exact brF ⟨rfl, rfl, x, rfl, k, k2, h⟩
/-! ### ratio_of -/
abbrev n_ratio_of : List Str := ["value"]
theorem sc_ratio_of : FnScope n_ratio_of ["value"] (defScope s_ratio_of) := ⟨rfl, rfl, rfl, by decide +kernel, rfl, by decide +kernel, by decide +kernel⟩
theorem ok_ratio_of (T : Tx K mg a d) : FnG P w K mg base 3 (a i_ratio_of) (d i_ratio_of) ["value"] spRatioOf := by
  have G_is_whole : FnG P w K mg base 1 (a i_is_whole) (d i_is_whole) ["value"] spWhole := ok_is_whole T
  have G_is_ratio : FnG P w K mg base 2 (a i_is_ratio) (d i_is_ratio) ["value"] spRatio := ok_is_ratio T
  refine fnG_of T.F_ratio_of sc_ratio_of (fun args Q E h => ?_) (fun args Q E h => ?_) (fun cdv A outer s H E hr hg => (ds_cons (ds_if (dt_val (de_call G_is_whole (hr.mono (by decide)) hg (takes_of rfl rfl rfl rfl) (B_is_whole_1 T) (by rfl) T.m_is_whole T.F_is_whole.kp (da_cons (de_var (pv 0)) da_nil))) (ds_one (ds_ret (de_tup (da_cons (de_var (pv 0)) (da_cons de_int da_nil))))) ds_nil)
      (ds_cons (ds_if (dt_not (dt_val (de_call G_is_ratio (hr.mono (by decide)) hg (takes_of rfl rfl rfl rfl) (B_is_ratio_1 T) (by rfl) T.m_is_ratio T.F_is_ratio.kp (da_cons (de_var (pv 0)) da_nil)))) (ds_one ds_never) ds_nil)
      (ds_one (ds_ret (de_var (pv 0))))))) (fun args Q E h => ?_)
  · obtain ⟨_, _, rfl, _⟩ := h; rfl
  · obtain ⟨_, _, rfl, _⟩ := h
    intro i o z
    match i with
    | 0 => cases z
    | i + 1 => simp at z
  · obtain ⟨x, q, rfl, hv, h⟩ := h
    unfold ratOf at hv
    split at hv
    · rename_i i
      cases hv
      refine ⟨rfl, rfl, _, rfl, rfl, ?_⟩
      refine l_truB (brT ?_)
      exact l_tup rfl rfl h
    · rename_i a b
      split at hv
      · rename_i h1
        cases hv
        rw [rD_of h1.1 h1.2] at h
        refine ⟨rfl, rfl, _, rfl, rfl, ?_⟩
        refine l_truB (brF ?_)
        refine ⟨rfl, rfl, _, rfl, rfl, ⟨rfl, rfl⟩, ?_⟩
        refine l_truB ?_
        have e : ratioD (.tup [.int a, .int b]) = true := by
          show (decide (1 ≤ b) && decide (gcI a b = 1)) = true
          rw [decide_eq_true h1.1, decide_eq_true h1.2]; rfl
        rw [e]
        exact brF h
      · cases hv
    · cases hv
end
end K08

set_option Elab.async false
set_option linter.all false
set_option maxRecDepth 100000
set_option maxHeartbeats 4000000
namespace K08
open PySem PySem.Spec PyProof.Rows L2 DL
section
variable {P : Program} {w : World} {K : PySem.W.Frag} {mg : Str → Option Value} {base : Heap} {a : Nat → Addr} {d : Nat → FuncData}
/-! ### lowest -/
abbrev n_lowest : List Str := ["top", "bottom", "by"]
theorem sc_lowest : FnScope n_lowest ["top", "bottom"] (defScope s_lowest) := ⟨rfl, rfl, rfl, by decide +kernel, rfl, by decide +kernel, by decide +kernel⟩
theorem nsee2 {x y : D} {i : Nat} {o : OO} : [DV.d x, DV.d y][i]? ≠ some (.see o) := by
  intro z
  match i with
  | 0 => cases z
  | 1 => cases z
  | i + 2 => simp at z
theorem gc_bits {n d : Int} (h : 0 < d) (hb : d.natAbs < 2 ^ 8000) : CDivW n (gcI n d) := by
  have g := gcI_pos (n := n) h
  refine ⟨g, ?_⟩
  have l : gcI n d ≤ d := Int.le_of_dvd h (Int.gcd_dvd_right n d)
  have : (gcI n d).natAbs < 2 ^ 8000 := Nat.lt_of_le_of_lt (by omega) hb
  exact Nat.lt_of_lt_of_le (PySem.Flt.log2_lt_of (by decide) this) (by decide)
theorem ok_lowest (T : Tx K mg a d) : FnG P w K mg base 1 (a i_lowest) (d i_lowest) ["top", "bottom"] spLow := by
  refine fnG_of T.F_lowest sc_lowest (fun args Q E h => ?_) (fun args Q E h => ?_) (fun cdv A outer s H E hr hg => (ds_cons (ds_set (i := 2) sc_lowest.nd rfl (Or.inl rfl) (de_callF cr_gcd sem_gcd (by rfl) T.b_gcd (da_cons (de_see (pv 0)) (da_cons (de_see (pv 1)) da_nil))))
      (ds_one (ds_ret (de_tup (da_cons (de_fdiv (de_var (pv 0)) (de_var (pv 2))) (da_cons (de_fdiv (de_var (pv 1)) (de_var (pv 2))) da_nil))))))) (fun args Q E h => ?_)
  · obtain ⟨_, _, rfl, _⟩ := h; rfl
  · obtain ⟨_, _, rfl, _⟩ := h
    intro i o; exact nsee2
  · obtain ⟨n, m, rfl, h1, h2, h⟩ := h
    refine set_cut (.int (gcI n m)) (fun Q hQ => l_gcd hQ) ?_
    refine l_int1 (gc_bits h1 h2) ?_
    refine l_int1 (gc_bits (n := n) h1 h2) ?_
    rw [rD_low h1] at h
    exact l_tup rfl rfl h
/-! ### plus -/
abbrev n_plus : List Str := ["one", "other"]
theorem sc_plus : FnScope n_plus ["one", "other"] (defScope s_plus) := ⟨rfl, rfl, rfl, by decide +kernel, rfl, by decide +kernel, by decide +kernel⟩
theorem mulW {i j : Int} {B C : Nat} (h1 : i.natAbs < 2 ^ B) (h2 : j.natAbs < 2 ^ C) (h : B + C ≤ 900000) : CMulW i j := wide_mul (a := B + 1) (b := C + 1) (Nat.lt_of_lt_of_le h1 (Nat.pow_le_pow_right (by decide) (by omega))) (Nat.lt_of_lt_of_le h2 (Nat.pow_le_pow_right (by decide) (by omega))) (by omega) (by omega) (by omega)
theorem nbd {B : Nat} {q : Rat} (h : Nb B q) : (q.den : Int).natAbs < 2 ^ B := by simpa using h.d
theorem den_bits {p q : Rat} (hp : Nb 3900 p) (hq : Nb 3900 q) : ((p.den : Int) * (q.den : Int)).natAbs < 2 ^ 8000 := by
  rw [Int.natAbs_mul]
  refine Nat.lt_of_lt_of_le (Nat.mul_lt_mul'' (nbd hp) (nbd hq)) ?_
  rw [← Nat.pow_add]
  exact Nat.pow_le_pow_right (by decide) (by decide)
theorem same_den {p q : Rat} (e : (p.den : Int) = q.den) : p + q = Rat.divInt (p.num + q.num) p.den := by
  have h0 := den_pos p
  rw [← rat_add, ← e, ← Int.add_mul, Rat.divInt_eq_divInt_iff (by exact Int.ne_of_gt (Int.mul_pos h0 h0)) (by omega), Int.mul_assoc]
theorem ok_plus (T : Tx K mg a d) : FnG P w K mg base 2 (a i_plus) (d i_plus) ["one", "other"] (spRat2 fun p q => .d (rD (p + q))) := by
  have G_lowest : FnG P w K mg base 1 (a i_lowest) (d i_lowest) ["top", "bottom"] spLow := ok_lowest T
  refine fnG_of T.F_plus sc_plus (fun args Q E h => ?_) (fun args Q E h => ?_) (fun cdv A outer s H E hr hg => (ds_cons (ds_if (dt_cmp (op_eqAll hr.units) sem_eq (de_ix ix_seq sem_ix (de_see (pv 0)) de_int (fun _ _ => rfl)) (de_ix ix_seq sem_ix (de_see (pv 1)) de_int (fun _ _ => rfl)) (nomark _)) (ds_one (ds_ret (de_ifE (dt_cmp (op_eqAll hr.units) sem_eq (de_ix ix_seq sem_ix (de_see (pv 0)) de_int (fun _ _ => rfl)) de_int (nomark _)) (de_tup (da_cons (de_add (de_ix ix_seq sem_ix (de_see (pv 0)) de_int (fun _ _ => rfl)) (de_ix ix_seq sem_ix (de_see (pv 1)) de_int (fun _ _ => rfl))) (da_cons de_int da_nil))) (de_call G_lowest (hr.mono (by decide)) hg (takes_of rfl rfl rfl rfl) (B_lowest_2 T) (by rfl) T.m_lowest T.F_lowest.kp (da_cons (de_add (de_ix ix_seq sem_ix (de_see (pv 0)) de_int (fun _ _ => rfl)) (de_ix ix_seq sem_ix (de_see (pv 1)) de_int (fun _ _ => rfl))) (da_cons (de_ix ix_seq sem_ix (de_see (pv 0)) de_int (fun _ _ => rfl)) da_nil)))))) ds_nil)
      (ds_one (ds_ret (de_call G_lowest (hr.mono (by decide)) hg (takes_of rfl rfl rfl rfl) (B_lowest_2 T) (by rfl) T.m_lowest T.F_lowest.kp (da_cons (de_add (de_mul (de_ix ix_seq sem_ix (de_see (pv 0)) de_int (fun _ _ => rfl)) (de_ix ix_seq sem_ix (de_see (pv 1)) de_int (fun _ _ => rfl))) (de_mul (de_ix ix_seq sem_ix (de_see (pv 1)) de_int (fun _ _ => rfl)) (de_ix ix_seq sem_ix (de_see (pv 0)) de_int (fun _ _ => rfl)))) (da_cons (de_mul (de_ix ix_seq sem_ix (de_see (pv 0)) de_int (fun _ _ => rfl)) (de_ix ix_seq sem_ix (de_see (pv 1)) de_int (fun _ _ => rfl))) da_nil))))))) (fun args Q E h => ?_)
  · obtain ⟨_, _, rfl, _⟩ := h; rfl
  · obtain ⟨_, _, rfl, _⟩ := h
    intro i o; exact nsee2
  · obtain ⟨p, q, rfl, hp, hq, h⟩ := h
    replace h : Q (.d (rD (p + q))) := h
    refine l_ixT rfl ?_
    refine l_ixT rfl ?_
    refine l_eqI ?_
    refine br (fun h1 => ?_) (fun h1 => ?_)
    · have e : (p.den : Int) = q.den := of_decide_eq_true h1
      refine l_ixT rfl ?_
      refine l_eqI ?_
      refine br (fun h2 => ?_) (fun h2 => ?_)
      · have e2 : (p.den : Int) = 1 := of_decide_eq_true h2
        refine l_ixT rfl ?_
        refine l_ixT rfl ?_
        refine l_addI ?_
        refine l_tup rfl rfl ?_
        have e3 : rD (p + q) = rt (p.num + q.num) 1 := by
          rw [same_den e, e2, rD_of (by decide) (by unfold gcI; simp)]
        rw [e3] at h
        exact h
      · refine l_ixT rfl ?_
        refine l_ixT rfl ?_
        refine l_addI ?_
        refine l_ixT rfl ?_
        refine ⟨rfl, rfl, _, _, rfl, den_pos p, ?_, ?_⟩
        · exact Nat.lt_of_lt_of_le (nbd hp) (Nat.pow_le_pow_right (by decide) (by decide))
        · rw [← same_den e]; exact h
    · refine l_ixT rfl ?_
      refine l_ixT rfl ?_
      refine l_mulI (mulW hp.n (nbd hq) (by decide)) ?_
      refine l_ixT rfl ?_
      refine l_ixT rfl ?_
      refine l_mulI (mulW hq.n (nbd hp) (by decide)) ?_
      refine l_addI ?_
      refine l_ixT rfl ?_
      refine l_ixT rfl ?_
      refine l_mulI (mulW (nbd hp) (nbd hq) (by decide)) ?_
      refine ⟨rfl, rfl, _, _, rfl, Int.mul_pos (den_pos p) (den_pos q), den_bits hp hq, ?_⟩
      rw [rat_add]; exact h
/-! ### times -/
abbrev n_times : List Str := ["one", "other"]
theorem sc_times : FnScope n_times ["one", "other"] (defScope s_times) := ⟨rfl, rfl, rfl, by decide +kernel, rfl, by decide +kernel, by decide +kernel⟩
theorem ok_times (T : Tx K mg a d) : FnG P w K mg base 2 (a i_times) (d i_times) ["one", "other"] (spRat2 fun p q => .d (rD (p * q))) := by
  have G_lowest : FnG P w K mg base 1 (a i_lowest) (d i_lowest) ["top", "bottom"] spLow := ok_lowest T
  refine fnG_of T.F_times sc_times (fun args Q E h => ?_) (fun args Q E h => ?_) (fun cdv A outer s H E hr hg => (ds_cons (ds_if (DW.dt (dw_and (dt_cmp (op_eqAll hr.units) sem_eq (de_ix ix_seq sem_ix (de_see (pv 0)) de_int (fun _ _ => rfl)) de_int (nomark _)) (dw_and1 (dt_cmp (op_eqAll hr.units) sem_eq (de_ix ix_seq sem_ix (de_see (pv 1)) de_int (fun _ _ => rfl)) de_int (nomark _))))) (ds_one (ds_ret (de_tup (da_cons (de_mul (de_ix ix_seq sem_ix (de_see (pv 0)) de_int (fun _ _ => rfl)) (de_ix ix_seq sem_ix (de_see (pv 1)) de_int (fun _ _ => rfl))) (da_cons de_int da_nil))))) ds_nil)
      (ds_one (ds_ret (de_call G_lowest (hr.mono (by decide)) hg (takes_of rfl rfl rfl rfl) (B_lowest_2 T) (by rfl) T.m_lowest T.F_lowest.kp (da_cons (de_mul (de_ix ix_seq sem_ix (de_see (pv 0)) de_int (fun _ _ => rfl)) (de_ix ix_seq sem_ix (de_see (pv 1)) de_int (fun _ _ => rfl))) (da_cons (de_mul (de_ix ix_seq sem_ix (de_see (pv 0)) de_int (fun _ _ => rfl)) (de_ix ix_seq sem_ix (de_see (pv 1)) de_int (fun _ _ => rfl))) da_nil))))))) (fun args Q E h => ?_)
  · obtain ⟨_, _, rfl, _⟩ := h; rfl
  · obtain ⟨_, _, rfl, _⟩ := h
    intro i o; exact nsee2
  · obtain ⟨p, q, rfl, hp, hq, h⟩ := h
    replace h : Q (.d (rD (p * q))) := h
    refine l_ixT rfl ?_
    refine l_eqI ?_
    refine br (fun h1 => ?_) (fun h1 => ?_)
    · have e1 : (p.den : Int) = 1 := of_decide_eq_true h1
      refine l_ixT rfl ?_
      refine l_eqI ?_
      refine br (fun h2 => ?_) (fun h2 => ?_)
      · have e2 : (q.den : Int) = 1 := of_decide_eq_true h2
        refine l_ixT rfl ?_
        refine l_ixT rfl ?_
        refine l_mulI (mulW hp.n hq.n (by decide)) ?_
        refine l_tup rfl rfl ?_
        have e3 : rD (p * q) = rt (p.num * q.num) 1 := by
          rw [← rat_mul, e1, e2, Int.mul_one, rD_of (by decide) (by unfold gcI; simp)]
        rw [e3] at h
        exact h
      · refine l_ixT rfl ?_
        refine l_ixT rfl ?_
        refine l_mulI (mulW hp.n hq.n (by decide)) ?_
        refine l_ixT rfl ?_
        refine l_ixT rfl ?_
        refine l_mulI (mulW (nbd hp) (nbd hq) (by decide)) ?_
        refine ⟨rfl, rfl, _, _, rfl, Int.mul_pos (den_pos p) (den_pos q), den_bits hp hq, ?_⟩
        rw [rat_mul]; exact h
    · refine brF ?_
      refine l_ixT rfl ?_
      refine l_ixT rfl ?_
      refine l_mulI (mulW hp.n hq.n (by decide)) ?_
      refine l_ixT rfl ?_
      refine l_ixT rfl ?_
      refine l_mulI (mulW (nbd hp) (nbd hq) (by decide)) ?_
      refine ⟨rfl, rfl, _, _, rfl, Int.mul_pos (den_pos p) (den_pos q), den_bits hp hq, ?_⟩
      rw [rat_mul]; exact h
/-! ### below -/
abbrev n_below : List Str := ["one", "other"]
theorem sc_below : FnScope n_below ["one", "other"] (defScope s_below) := ⟨rfl, rfl, rfl, by decide +kernel, rfl, by decide +kernel, by decide +kernel⟩
theorem ok_below (T : Tx K mg a d) : FnG P w K mg base 1 (a i_below) (d i_below) ["one", "other"] (spRat2 fun p q => .d (.bl (decide (p < q)))) := by
  refine fnG_of T.F_below sc_below (fun args Q E h => ?_) (fun args Q E h => ?_) (fun cdv A outer s H E hr hg => (ds_one (ds_ret (de_cmp op_lt (sem_intR0 fun _ _ _ => .bl _) (de_mul (de_ix ix_seq sem_ix (de_see (pv 0)) de_int (fun _ _ => rfl)) (de_ix ix_seq sem_ix (de_see (pv 1)) de_int (fun _ _ => rfl))) (de_mul (de_ix ix_seq sem_ix (de_see (pv 1)) de_int (fun _ _ => rfl)) (de_ix ix_seq sem_ix (de_see (pv 0)) de_int (fun _ _ => rfl))) (nomark _))))) (fun args Q E h => ?_)
  · obtain ⟨_, _, rfl, _⟩ := h; rfl
  · obtain ⟨_, _, rfl, _⟩ := h
    intro i o; exact nsee2
  · obtain ⟨p, q, rfl, hp, hq, h⟩ := h
    replace h : Q (.d (.bl (decide (p < q)))) := h
    refine l_ixT rfl ?_
    refine l_ixT rfl ?_
    refine l_mulI (mulW hp.n (nbd hq) (by decide)) ?_
    refine l_ixT rfl ?_
    refine l_ixT rfl ?_
    refine l_mulI (mulW hq.n (nbd hp) (by decide)) ?_
    refine l_int0 ?_
    rw [rat_lt]; exact h
/-! ### the law's own -/
abbrev n__law_low : List Str := ["_law_top", "_law_bottom", "_law_one", "_law_other"]
theorem sc__law_low : FnScope n__law_low ["_law_top", "_law_bottom"] (defScope s__law_low) := ⟨rfl, rfl, rfl, by decide +kernel, rfl, by decide +kernel, by decide +kernel⟩
theorem ok__law_low (T : Tx K mg a d) : FnG P w K mg base 1 (a i__law_low) (d i__law_low) ["_law_top", "_law_bottom"] spLow := by
  refine fnG_of T.F__law_low sc__law_low (fun args Q E h => ?_) (fun args Q E h => ?_) (fun cdv A outer s H E hr hg => (ds_cons (ds_par (i := 2) (j := 3) rfl sc__law_low.nd rfl rfl (by decide) rfl rfl (da_cons (de_callB call_abs sem_abs (by rfl) T.n_abs (by decide +kernel) (da_cons (de_see (pv 0)) da_nil)) (da_cons (de_var (pv 1)) da_nil)) (by rfl))
      (ds_cons (ds_while (passes_of rfl) (dt_cmp op_gt (sem_intR0 fun _ _ _ => .bl _) (de_see (pv 3)) de_int (nomark _)) (ds_one (ds_par (i := 2) (j := 3) rfl sc__law_low.nd rfl rfl (by decide) rfl rfl (da_cons (de_var (pv 3)) (da_cons (de_mod (de_callT call_int1 sem_int (by rfl) T.n_int (by decide +kernel) (da_cons (de_see (pv 2)) da_nil)) (de_var (pv 3))) da_nil)) (by rfl))))
      (ds_one (ds_ret (de_tup (da_cons (de_fdiv (de_var (pv 0)) (de_var (pv 2))) (da_cons (de_fdiv (de_var (pv 1)) (de_var (pv 2))) da_nil)))))))) (fun args Q E h => ?_)
  · obtain ⟨_, _, rfl, _⟩ := h; rfl
  · obtain ⟨_, _, rfl, _⟩ := h
    intro i o; exact nsee2
  · obtain ⟨n, m, rfl, h1, h2, h⟩ := h
    have ea : (if n < 0 then -n else n) = ((n.natAbs : Nat) : Int) := by split <;> omega
    refine par_cut (.int (n.natAbs : Nat)) (.int m) (s' := [some (.d (.int n)), some (.d (.int m)), none, none]) (fun Q hQ => ?_) ?_
    · refine l_abs ?_
      rw [ea]
      exact hQ
    refine seq_cut (fun s => s = [some (.d (.int n)), some (.d (.int m)), some (.d (.int (gcI n m))), some (.d (.int 0))]) (fun N hN => ?_) (fun s hs => ?_)
    · refine ⟨fun k s => ∃ x : Nat, s = [some (.d (.int n)), some (.d (.int m)), some (.d (.int (x : Int))), some (.d (.int (k : Int)))] ∧ Nat.gcd x k = Nat.gcd n.natAbs m.natAbs, ⟨m.natAbs, n.natAbs, ?_, rfl⟩, ?_⟩
      · have : ((m.natAbs : Nat) : Int) = m := by omega
        rw [this]; rfl
      · rintro k s ⟨x, rfl, hg⟩
        refine l_int0 ?_
        refine br (fun hk => ?_) (fun hk => ?_)
        · have hk' : (0 : Int) < (k : Int) := of_decide_eq_true hk
          refine l_int ?_
          refine l_int1 hk' ?_
          refine ⟨x % k, Nat.mod_lt _ (by omega), k, ?_, ?_⟩
          · show [_, _, _, some (DV.d (.int ((x : Int) % (k : Int))))] = _
            rw [← Int.natCast_emod]
          · rw [← hg, Nat.gcd_comm x k, Nat.gcd_rec k x, Nat.gcd_comm]
        · have hk' : ¬ (0 : Int) < (k : Int) := of_decide_eq_false hk
          have k0 : k = 0 := by omega
          subst k0
          refine hN _ ?_
          rw [Nat.gcd_zero_right] at hg
          rw [hg]; rfl
    · subst hs
      refine l_int1 (gc_bits h1 h2) ?_
      refine l_int1 (gc_bits (n := n) h1 h2) ?_
      rw [rD_low h1] at h
      exact l_tup rfl rfl h
end
end K08

set_option Elab.async false
set_option linter.all false
set_option maxRecDepth 100000
set_option maxHeartbeats 4000000
namespace K08
open PySem PySem.Spec PyProof.Rows L2 DL
section
variable {P : Program} {w : World} {K : PySem.W.Frag} {mg : Str → Option Value} {base : Heap} {a : Nat → Addr} {d : Nat → FuncData}
/-! ### dot -/
def rL (qs : List Rat) : List D := qs.map rD
def spDot (tp : Bool) : SpD := fun args Q _ => ∃ (ps qs : List Rat) (Y : D), args = [.d (if tp then .tup (rL ps) else .lst (rL ps)), .d Y] ∧ (Y = .tup (rL qs) ∨ Y = .lst (rL qs)) ∧ ps.length = qs.length ∧ ps.length ≤ 30 ∧ (∀ p ∈ ps, Nb 60 p) ∧ (∀ q ∈ qs, Nb 60 q) ∧ Q (.d (rD (dotQ ps qs)))
abbrev n_dot : List Str := ["one", "other", "found", "left", "right"]
theorem sc_dot : FnScope n_dot ["one", "other"] (defScope s_dot) := ⟨rfl, rfl, rfl, by decide +kernel, rfl, by decide +kernel, by decide +kernel⟩
theorem ok_dot (T : Tx K mg a d) : FnG P w K mg base 3 (a i_dot) (d i_dot) ["one", "other"] (spDot true) := by
  have G_plus : FnG P w K mg base 2 (a i_plus) (d i_plus) ["one", "other"] (spRat2 fun p q => .d (rD (p + q))) := ok_plus T
  have G_times : FnG P w K mg base 2 (a i_times) (d i_times) ["one", "other"] (spRat2 fun p q => .d (rD (p * q))) := ok_times T
  refine fnG_of T.F_dot sc_dot (fun args Q E h => ?_) (fun args Q E h => ?_) (fun cdv A outer s H E hr hg => (ds_cons (ds_set (i := 2) sc_dot.nd rfl (Or.inl rfl) (de_globD (by rfl) T.c_ZERO))
      (ds_cons (ds_for (passes_of rfl) rfl (di_zipU (by rfl) T.n_zip (da_cons (de_var (pv 0)) (da_cons (de_var (pv 1)) da_nil))) (dg_tup (n := 2) (K := K) rfl (dgs_cons (dg_name (i := 3) sc_dot.nd rfl (Or.inl rfl)) (dgs_cons (dg_name (i := 4) sc_dot.nd rfl (Or.inl rfl)) dgs_nil))) (ds_one (ds_if (DW.dt (dw_and (dt_cmp (op_neAll hr.units) sem_ne (de_ix ix_seq sem_ix (de_see (pv 3)) de_int (fun _ _ => rfl)) de_int (nomark _)) (dw_and1 (dt_cmp (op_neAll hr.units) sem_ne (de_ix ix_seq sem_ix (de_see (pv 4)) de_int (fun _ _ => rfl)) de_int (nomark _))))) (ds_one (ds_set (i := 2) sc_dot.nd rfl (Or.inl rfl) (de_call G_plus (hr.mono (by decide)) hg (takes_of rfl rfl rfl rfl) (B_plus_2 T) (by rfl) T.m_plus T.F_plus.kp (da_cons (de_var (pv 2)) (da_cons (de_call G_times (hr.mono (by decide)) hg (takes_of rfl rfl rfl rfl) (B_times_2 T) (by rfl) T.m_times T.F_times.kp (da_cons (de_var (pv 3)) (da_cons (de_var (pv 4)) da_nil))) da_nil))))) ds_nil)))
      (ds_one (ds_ret (de_var (pv 2))))))) (fun args Q E h => ?_)
  · obtain ⟨_, _, _, rfl, _⟩ := h; rfl
  · obtain ⟨_, _, _, rfl, _⟩ := h
    intro i o; exact nsee2
  · obtain ⟨ps, qs, Y, rfl, hY, hl, h30, hp, hq, h⟩ := h
    replace h : Q (.d (rD (dotQ ps qs))) := h
    refine seq_cut (fun s => s = [some (.d (.tup (rL ps))), some (.d Y), some (.d (rD 0)), none, none]) (fun N hN => hN _ rfl) (fun s hs => ?_)
    subst hs
    refine seq_cut (fun s => ∃ x y, s = [some (.d (.tup (rL ps))), some (.d Y), some (.d (rD (dotQ ps qs))), x, y]) (fun N hN => ?_) (fun s hs => ?_)
    · have lz : ∀ P : List D → Prop, P (zipD (rL ps) (rL qs)) → zipUR [.d (.tup (rL ps)), .d Y] P := by
        rcases hY with rfl | rfl
        · exact fun P => l_zipTT
        · exact fun P => l_zipTL
      refine lz _ ?_
      refine forL_ind (fun r s => ∃ (ps' qs' : List Rat) (acc : Rat) (B : Nat) (x y : Option DV), r = zipD (rL ps') (rL qs') ∧ s = [some (.d (.tup (rL ps))), some (.d Y), some (.d (rD acc)), x, y] ∧ acc + dotQ ps' qs' = dotQ ps qs ∧ Nb B acc ∧ B + 121 * ps'.length ≤ 3700 ∧ ps'.length = qs'.length ∧ (∀ p ∈ ps', Nb 60 p) ∧ (∀ q ∈ qs', Nb 60 q)) ?_ ?_ _ _ ⟨ps, qs, 0, 1, none, none, rfl, rfl, by rw [Rat.zero_add], nb_zero, by omega, hl, hp, hq⟩
      · rintro N' d r s hN' ⟨ps', qs', acc, B, x, y, e, rfl, ha, hb, hB, hl', hp', hq'⟩
        match ps', qs', hl' with
        | [], [], _ => cases e
        | p :: ps', q :: qs', hl' =>
          cases e
          have np := hp' p (List.mem_cons_self ..)
          have nq := hq' q (List.mem_cons_self ..)
          rw [List.length_cons] at hB
          have skip : p * q = 0 → N' [some (.d (.tup (rL ps))), some (.d Y), some (.d (rD acc)), some (.d (rD p)), some (.d (rD q))] := fun e0 => hN' _ ⟨ps', qs', acc, B, _, _, rfl, rfl, by rw [← ha]; show acc + dotQ ps' qs' = acc + (p * q + dotQ ps' qs'); rw [e0, Rat.zero_add], hb, by omega, by simpa using hl', fun z hz => hp' z (List.mem_cons_of_mem _ hz), fun z hz => hq' z (List.mem_cons_of_mem _ hz)⟩
          refine ⟨rfl, ?_⟩
          refine l_ixT rfl ?_
          refine l_eqI ?_
          refine br (fun h1 => ?_) (fun h1 => ?_)
          · refine l_ixT rfl ?_
            refine l_eqI ?_
            refine br (fun h2 => ?_) (fun h2 => ?_)
            · refine ⟨rfl, rfl, p, q, rfl, np.mono (by decide), nq.mono (by decide), ?_⟩
              refine ⟨rfl, rfl, acc, p * q, rfl, hb.mono (by omega), (nb_mul np nq).mono (by decide), ?_⟩
              exact hN' _ ⟨ps', qs', acc + p * q, B + 120 + 1, _, _, rfl, rfl, by rw [← ha, Rat.add_assoc]; rfl, nb_add hb (nb_mul np nq), by omega, by simpa using hl', fun z hz => hp' z (List.mem_cons_of_mem _ hz), fun z hz => hq' z (List.mem_cons_of_mem _ hz)⟩
            · have e0 : q.num = 0 := by simpa using h2
              refine skip ?_
              rw [num_zero e0, Rat.mul_zero]
          · have e0 : p.num = 0 := by simpa using h1
            refine brF (skip ?_)
            rw [num_zero e0, Rat.zero_mul]
      · rintro s ⟨ps', qs', acc, B, x, y, e, rfl, ha, hb, hB, hl', hp', hq'⟩
        refine hN _ ⟨x, y, ?_⟩
        rcases ps' with _ | ⟨p, ps'⟩
        · rcases qs' with _ | ⟨q, qs'⟩
          · rw [← ha]
            show _ = [_, _, some (DV.d (rD (acc + 0))), _, _]
            rw [Rat.add_zero]
          · cases hl'
        · rcases qs' with _ | ⟨q, qs'⟩
          · cases hl'
          · cases e
    · obtain ⟨x, y, rfl⟩ := hs
      exact h
end
end K08

set_option Elab.async false
set_option linter.all false
set_option maxRecDepth 100000
set_option maxHeartbeats 4000000
namespace K08
open PySem PySem.Spec PyProof.Rows L2 DL
section
variable {P : Program} {w : World} {K : PySem.W.Frag} {mg : Str → Option Value} {base : Heap} {a : Nat → Addr} {d : Nat → FuncData}
/-! ### the law's sums -/
abbrev n__law_plus : List Str := ["_law_one", "_law_other"]
theorem sc__law_plus : FnScope n__law_plus ["_law_one", "_law_other"] (defScope s__law_plus) := ⟨rfl, rfl, rfl, by decide +kernel, rfl, by decide +kernel, by decide +kernel⟩
theorem ok__law_plus (T : Tx K mg a d) : FnG P w K mg base 2 (a i__law_plus) (d i__law_plus) ["_law_one", "_law_other"] (spRat2 fun p q => .d (rD (p + q))) := by
  have G__law_low : FnG P w K mg base 1 (a i__law_low) (d i__law_low) ["_law_top", "_law_bottom"] spLow := ok__law_low T
  refine fnG_of T.F__law_plus sc__law_plus (fun args Q E h => ?_) (fun args Q E h => ?_) (fun cdv A outer s H E hr hg => (ds_one (ds_ret (de_call G__law_low (hr.mono (by decide)) hg (takes_of rfl rfl rfl rfl) (B__law_low_2 T) (by rfl) T.m__law_low T.F__law_low.kp (da_cons (de_add (de_mul (de_ix ix_seq sem_ix (de_see (pv 0)) de_int (fun _ _ => rfl)) (de_ix ix_seq sem_ix (de_see (pv 1)) de_int (fun _ _ => rfl))) (de_mul (de_ix ix_seq sem_ix (de_see (pv 1)) de_int (fun _ _ => rfl)) (de_ix ix_seq sem_ix (de_see (pv 0)) de_int (fun _ _ => rfl)))) (da_cons (de_mul (de_ix ix_seq sem_ix (de_see (pv 0)) de_int (fun _ _ => rfl)) (de_ix ix_seq sem_ix (de_see (pv 1)) de_int (fun _ _ => rfl))) da_nil)))))) (fun args Q E h => ?_)
  · obtain ⟨_, _, rfl, _⟩ := h; rfl
  · obtain ⟨_, _, rfl, _⟩ := h
    intro i o; exact nsee2
  · obtain ⟨p, q, rfl, hp, hq, h⟩ := h
    replace h : Q (.d (rD (p + q))) := h
    refine l_ixT rfl ?_
    refine l_ixT rfl ?_
    refine l_mulI (mulW hp.n (nbd hq) (by decide)) ?_
    refine l_ixT rfl ?_
    refine l_ixT rfl ?_
    refine l_mulI (mulW hq.n (nbd hp) (by decide)) ?_
    refine l_addI ?_
    refine l_ixT rfl ?_
    refine l_ixT rfl ?_
    refine l_mulI (mulW (nbd hp) (nbd hq) (by decide)) ?_
    refine ⟨rfl, rfl, _, _, rfl, Int.mul_pos (den_pos p) (den_pos q), den_bits hp hq, ?_⟩
    rw [rat_add]; exact h
abbrev n__law_times : List Str := ["_law_one", "_law_other"]
theorem sc__law_times : FnScope n__law_times ["_law_one", "_law_other"] (defScope s__law_times) := ⟨rfl, rfl, rfl, by decide +kernel, rfl, by decide +kernel, by decide +kernel⟩
theorem ok__law_times (T : Tx K mg a d) : FnG P w K mg base 2 (a i__law_times) (d i__law_times) ["_law_one", "_law_other"] (spRat2 fun p q => .d (rD (p * q))) := by
  have G__law_low : FnG P w K mg base 1 (a i__law_low) (d i__law_low) ["_law_top", "_law_bottom"] spLow := ok__law_low T
  refine fnG_of T.F__law_times sc__law_times (fun args Q E h => ?_) (fun args Q E h => ?_) (fun cdv A outer s H E hr hg => (ds_one (ds_ret (de_call G__law_low (hr.mono (by decide)) hg (takes_of rfl rfl rfl rfl) (B__law_low_2 T) (by rfl) T.m__law_low T.F__law_low.kp (da_cons (de_mul (de_ix ix_seq sem_ix (de_see (pv 0)) de_int (fun _ _ => rfl)) (de_ix ix_seq sem_ix (de_see (pv 1)) de_int (fun _ _ => rfl))) (da_cons (de_mul (de_ix ix_seq sem_ix (de_see (pv 0)) de_int (fun _ _ => rfl)) (de_ix ix_seq sem_ix (de_see (pv 1)) de_int (fun _ _ => rfl))) da_nil)))))) (fun args Q E h => ?_)
  · obtain ⟨_, _, rfl, _⟩ := h; rfl
  · obtain ⟨_, _, rfl, _⟩ := h
    intro i o; exact nsee2
  · obtain ⟨p, q, rfl, hp, hq, h⟩ := h
    replace h : Q (.d (rD (p * q))) := h
    refine l_ixT rfl ?_
    refine l_ixT rfl ?_
    refine l_mulI (mulW hp.n hq.n (by decide)) ?_
    refine l_ixT rfl ?_
    refine l_ixT rfl ?_
    refine l_mulI (mulW (nbd hp) (nbd hq) (by decide)) ?_
    refine ⟨rfl, rfl, _, _, rfl, Int.mul_pos (den_pos p) (den_pos q), den_bits hp hq, ?_⟩
    rw [rat_mul]; exact h
abbrev n__law_minus : List Str := ["_law_one"]
theorem sc__law_minus : FnScope n__law_minus ["_law_one"] (defScope s__law_minus) := ⟨rfl, rfl, rfl, by decide +kernel, rfl, by decide +kernel, by decide +kernel⟩
def spMinus : SpD := fun args Q _ => ∃ p : Rat, args = [.d (rD p)] ∧ Q (.d (rD (-p)))
theorem nsee1 {x : D} {i : Nat} {o : OO} : [DV.d x][i]? ≠ some (.see o) := by
  intro z
  match i with
  | 0 => cases z
  | i + 1 => simp at z
theorem ok__law_minus (T : Tx K mg a d) : FnG P w K mg base 1 (a i__law_minus) (d i__law_minus) ["_law_one"] spMinus := by
  refine fnG_of T.F__law_minus sc__law_minus (fun args Q E h => ?_) (fun args Q E h => ?_) (fun cdv A outer s H E hr hg => (ds_one (ds_ret (de_tup (da_cons (de_sub de_int (de_ix ix_seq sem_ix (de_see (pv 0)) de_int (fun _ _ => rfl))) (da_cons (de_ix ix_seq sem_ix (de_see (pv 0)) de_int (fun _ _ => rfl)) da_nil)))))) (fun args Q E h => ?_)
  · obtain ⟨_, rfl, _⟩ := h; rfl
  · obtain ⟨_, rfl, _⟩ := h
    intro i o; exact nsee1
  · obtain ⟨p, rfl, h⟩ := h
    refine l_ixT rfl ?_
    refine l_int0 ?_
    refine l_ixT rfl ?_
    refine l_tup rfl rfl ?_
    have e : rD (-p) = rt (0 - p.num) p.den := by
      show rt (-p).num ((-p).den : Int) = _
      rw [Rat.neg_num, Rat.neg_den, Int.zero_sub]
    rw [e] at h
    exact h
abbrev n__law_less : List Str := ["_law_one", "_law_other"]
theorem sc__law_less : FnScope n__law_less ["_law_one", "_law_other"] (defScope s__law_less) := ⟨rfl, rfl, rfl, by decide +kernel, rfl, by decide +kernel, by decide +kernel⟩
theorem ok__law_less (T : Tx K mg a d) : FnG P w K mg base 1 (a i__law_less) (d i__law_less) ["_law_one", "_law_other"] (spRat2 fun p q => .d (.bl (decide (p < q)))) := by
  refine fnG_of T.F__law_less sc__law_less (fun args Q E h => ?_) (fun args Q E h => ?_) (fun cdv A outer s H E hr hg => (ds_one (ds_ret (de_cmp op_lt (sem_intR0 fun _ _ _ => .bl _) (de_mul (de_ix ix_seq sem_ix (de_see (pv 0)) de_int (fun _ _ => rfl)) (de_ix ix_seq sem_ix (de_see (pv 1)) de_int (fun _ _ => rfl))) (de_mul (de_ix ix_seq sem_ix (de_see (pv 1)) de_int (fun _ _ => rfl)) (de_ix ix_seq sem_ix (de_see (pv 0)) de_int (fun _ _ => rfl))) (nomark _))))) (fun args Q E h => ?_)
  · obtain ⟨_, _, rfl, _⟩ := h; rfl
  · obtain ⟨_, _, rfl, _⟩ := h
    intro i o; exact nsee2
  · obtain ⟨p, q, rfl, hp, hq, h⟩ := h
    replace h : Q (.d (.bl (decide (p < q)))) := h
    refine l_ixT rfl ?_
    refine l_ixT rfl ?_
    refine l_mulI (mulW hp.n (nbd hq) (by decide)) ?_
    refine l_ixT rfl ?_
    refine l_ixT rfl ?_
    refine l_mulI (mulW hq.n (nbd hp) (by decide)) ?_
    refine l_int0 ?_
    rw [rat_lt]; exact h
/-! ### total, dot -/
def spTotal : SpD := fun args Q _ => ∃ qs : List Rat, args = [.d (.lst (rL qs))] ∧ qs.length ≤ 30 ∧ (∀ q ∈ qs, Nb 120 q) ∧ Q (.d (rD (sumQ qs)))
abbrev n__law_total : List Str := ["_law_pairs", "_law_found", "_law_pair"]
theorem sc__law_total : FnScope n__law_total ["_law_pairs"] (defScope s__law_total) := ⟨rfl, rfl, rfl, by decide +kernel, rfl, by decide +kernel, by decide +kernel⟩
theorem ok__law_total (T : Tx K mg a d) : FnG P w K mg base 3 (a i__law_total) (d i__law_total) ["_law_pairs"] spTotal := by
  have G__law_plus : FnG P w K mg base 2 (a i__law_plus) (d i__law_plus) ["_law_one", "_law_other"] (spRat2 fun p q => .d (rD (p + q))) := ok__law_plus T
  refine fnG_of T.F__law_total sc__law_total (fun args Q E h => ?_) (fun args Q E h => ?_) (fun cdv A outer s H E hr hg => (ds_cons (ds_set (i := 1) sc__law_total.nd rfl (Or.inl rfl) (de_tup (da_cons de_int (da_cons de_int da_nil))))
      (ds_cons (ds_for (passes_of rfl) rfl (di_any (de_var (pv 0))) (dg_name (i := 2) sc__law_total.nd rfl (Or.inl rfl)) (ds_one (ds_set (i := 1) sc__law_total.nd rfl (Or.inl rfl) (de_call G__law_plus (hr.mono (by decide)) hg (takes_of rfl rfl rfl rfl) (B__law_plus_2 T) (by rfl) T.m__law_plus T.F__law_plus.kp (da_cons (de_var (pv 1)) (da_cons (de_var (pv 2)) da_nil))))))
      (ds_one (ds_ret (de_var (pv 1))))))) (fun args Q E h => ?_)
  · obtain ⟨_, rfl, _⟩ := h; rfl
  · obtain ⟨_, rfl, _⟩ := h
    intro i o; exact nsee1
  · obtain ⟨qs, rfl, h30, hq, h⟩ := h
    refine set_cut (rD 0) (fun Q hQ => l_tup rfl rfl hQ) ?_
    refine seq_cut (fun s => ∃ x, s = [some (.d (.lst (rL qs))), some (.d (rD (sumQ qs))), x]) (fun N hN => ?_) (fun s hs => ?_)
    · refine l_iterL ?_
      refine forL_ind (fun r s => ∃ (qs' : List Rat) (acc : Rat) (B : Nat) (x : Option DV), r = rL qs' ∧ s = [some (.d (.lst (rL qs))), some (.d (rD acc)), x] ∧ acc + sumQ qs' = sumQ qs ∧ Nb B acc ∧ B + 121 * qs'.length ≤ 3700 ∧ (∀ q ∈ qs', Nb 120 q)) ?_ ?_ _ _ ⟨qs, 0, 1, none, rfl, rfl, by rw [Rat.zero_add], nb_zero, by omega, hq⟩
      · rintro N' d r s hN' ⟨qs', acc, B, x, e, rfl, ha, hb, hB, hq'⟩
        rcases qs' with _ | ⟨q, qs'⟩
        · cases e
        · cases e
          rw [List.length_cons] at hB
          have nq := hq' q (List.mem_cons_self ..)
          refine ⟨rfl, rfl, acc, q, rfl, hb.mono (by omega), nq.mono (by decide), ?_⟩
          exact hN' _ ⟨qs', acc + q, B + 120 + 1, _, rfl, rfl, by rw [← ha, Rat.add_assoc]; rfl, nb_add hb nq, by omega, fun z hz => hq' z (List.mem_cons_of_mem _ hz)⟩
      · rintro s ⟨qs', acc, B, x, e, rfl, ha, hb, hB, hq'⟩
        refine hN _ ⟨x, ?_⟩
        rcases qs' with _ | ⟨q, qs'⟩
        · rw [← ha]
          show _ = [_, some (DV.d (rD (acc + 0))), _]
          rw [Rat.add_zero]
        · cases e
    · obtain ⟨x, rfl⟩ := hs
      exact h
def spLDot : SpD := fun args Q _ => ∃ ps qs : List Rat, args = [.d (.lst (rL ps)), .d (.lst (rL qs))] ∧ ps.length = qs.length ∧ ps.length ≤ 30 ∧ (∀ p ∈ ps, Nb 60 p) ∧ (∀ q ∈ qs, Nb 60 q) ∧ Q (.d (rD (dotQ ps qs)))
abbrev n__law_dot : List Str := ["_law_one", "_law_other", "_law_k"]
theorem sc__law_dot : FnScope n__law_dot ["_law_one", "_law_other"] (defScope s__law_dot) := ⟨rfl, rfl, rfl, by decide +kernel, rfl, by decide +kernel, by decide +kernel⟩
def mulAt (ps qs : List Rat) : D → D
  | .int k => rD (ps.getD k.toNat 0 * qs.getD k.toNat 0)
  | _ => .non
theorem mulAt_map {ps qs : List Rat} (h : ps.length = qs.length) : (intsFrom 0 ps.length).map (mulAt ps qs) = rL (List.zipWith (· * ·) ps qs) := by
  rw [DL.ints_map]
  apply List.ext_getElem
  · simp [rL, h]
  · intro i h1 h2
    simp [rL, mulAt]
    have hi : i < ps.length := by simpa using h1
    have hi2 : i < qs.length := by omega
    simp [hi, hi2]
theorem ok__law_dot (T : Tx K mg a d) : FnG P w K mg base 4 (a i__law_dot) (d i__law_dot) ["_law_one", "_law_other"] spLDot := by
  have G__law_times : FnG P w K mg base 2 (a i__law_times) (d i__law_times) ["_law_one", "_law_other"] (spRat2 fun p q => .d (rD (p * q))) := ok__law_times T
  have G__law_total : FnG P w K mg base 3 (a i__law_total) (d i__law_total) ["_law_pairs"] spTotal := ok__law_total T
  refine fnG_of T.F__law_dot sc__law_dot (fun args Q E h => ?_) (fun args Q E h => ?_) (fun cdv A outer s H E hr hg => (ds_one (ds_ret (de_call G__law_total (hr.mono (by decide)) hg (takes_of rfl rfl rfl rfl) (B__law_total_1 T) (by rfl) T.m__law_total T.F__law_total.kp (da_cons (de_lc (own := [("_law_k", 2)]) rfl sc__law_dot.nd (di_rng1 (by rfl) T.n_range (da_cons (de_callB call_len sem_len (by rfl) T.n_len PySem.boot_len (da_cons (de_see (pv 0)) da_nil)) da_nil)) (blkOk_by (own := [("_law_k", 2)]) (N := n__law_dot) (sc := (defScope s__law_dot)) (by decide +kernel)) (fun _ _ _ _ _ => (dg_name (i := 2) sc__law_dot.nd rfl (Or.inl rfl))) (fun _ _ _ _ _ => dts_nil) (fun _ _ _ _ _ => (de_call G__law_times (hr.mono (by decide)) hg takes0 (B__law_times_2 T) (by rfl) T.m__law_times T.F__law_times.kp (da_cons (de_ix ix_seq sem_ix (de_see (pv 0)) (de_var (pv 2)) (fun _ _ => rfl)) (da_cons (de_ix ix_seq sem_ix (de_see (pv 1)) (de_var (pv 2)) (fun _ _ => rfl)) da_nil))))) da_nil))))) (fun args Q E h => ?_)
  · obtain ⟨_, _, rfl, _⟩ := h; rfl
  · obtain ⟨_, _, rfl, _⟩ := h
    intro i o; exact nsee2
  · obtain ⟨ps, qs, rfl, hl, h30, hp, hq, h⟩ := h
    refine l_lenL (ds := rL ps) rfl ?_
    have e1 : (rL ps).length = ps.length := by simp [rL]
    rw [e1]
    refine l_rng1 (by omega) (by omega) ?_
    rw [Int.toNat_natCast]
    refine lcL_map (mulAt ps qs) _ (by rw [intsFrom_len]; have : szl = 16777216 := rfl; omega) (fun d hd M A m => ?_) ?_
    · obtain ⟨i, hi, rfl⟩ := mem_ints hd
      have hi2 : i < qs.length := by omega
      rw [show ((0 : Int) + (i : Int)) = (i : Int) by omega] at *
      refine brT ?_
      refine l_ixL (ds := rL ps) (d := rD ps[i]) rfl (at_map (by simp [hi])) ?_
      refine l_ixL (ds := rL qs) (d := rD qs[i]) rfl (at_map (by simp [hi2])) ?_
      refine ⟨rfl, rfl, ps[i], qs[i], rfl, (hp _ (List.getElem_mem hi)).mono (by decide), (hq _ (List.getElem_mem hi2)).mono (by decide), ?_⟩
      have e : mulAt ps qs (.int (i : Int)) = rD (ps[i] * qs[i]) := by
        show rD (ps.getD (i : Int).toNat 0 * qs.getD (i : Int).toNat 0) = _
        rw [Int.toNat_natCast]
        simp [List.getD, hi, hi2]
      rw [e] at m
      exact m
    · rw [mulAt_map hl]
      refine ⟨rfl, rfl, _, rfl, ?_, ?_, ?_⟩
      · simp; omega
      · exact nb_zip hp hq
      · rw [dot_sum]; exact h
end
end K08

set_option Elab.async false
set_option linter.all false
set_option maxRecDepth 100000
set_option maxHeartbeats 4000000
namespace K08
open PySem PySem.Spec PyProof.Rows L2 DL
section
variable {P : Program} {w : World} {K : PySem.W.Frag} {mg : Str → Option Value} {base : Heap} {a : Nat → Addr} {d : Nat → FuncData}
/-! ### drawn ratios -/
def spLen : SpD := fun args Q _ => args = [.src] ∧ ∀ q : Rat, Nb 40 q → 0 ≤ q.num → Q (.d (rD q))
def spGain : SpD := fun args Q _ => args = [.src] ∧ ∀ q : Rat, Nb 40 q → Q (.d (rD q))
theorem nsee0 {i : Nat} {o : OO} : [DV.src][i]? ≠ some (.see o) := by
  intro z
  match i with
  | 0 => cases z
  | i + 1 => simp at z
theorem rt_int {n : Int} : rt n 1 = rD (n : Rat) := rfl
theorem nb_int {n : Int} (h : n.natAbs < 2 ^ 40) : Nb 40 (n : Rat) := ⟨h, by show 1 < 2 ^ 40; decide⟩
abbrev n__law_length : List Str := ["_law_src", "_law_way"]
theorem sc__law_length : FnScope n__law_length ["_law_src"] (defScope s__law_length) := ⟨rfl, rfl, rfl, by decide +kernel, rfl, by decide +kernel, by decide +kernel⟩
theorem ok__law_length (T : Tx K mg a d) : FnG P w K mg base 2 (a i__law_length) (d i__law_length) ["_law_src"] spLen := by
  have G__law_draw : FnG P w K mg base 1 (a i__law_draw) (d i__law_draw) ["_law_src", "_law_many"] spDraw := ok__law_draw T
  have G__law_low : FnG P w K mg base 1 (a i__law_low) (d i__law_low) ["_law_top", "_law_bottom"] spLow := ok__law_low T
  refine fnG_of T.F__law_length sc__law_length (fun args Q E h => ?_) (fun args Q E h => ?_) (fun cdv A outer s H E hr hg => (ds_cons (ds_set (i := 1) sc__law_length.nd rfl (Or.inl rfl) (de_call G__law_draw (hr.mono (by decide)) hg (takes_of rfl rfl rfl rfl) (B__law_draw_2 T) (by rfl) T.m__law_draw T.F__law_draw.kp (da_cons (de_var (pv 0)) (da_cons de_int da_nil))))
      (ds_cons (ds_if (dt_cmp op_lt (sem_intR0 fun _ _ _ => .bl _) (de_see (pv 1)) de_int (nomark _)) (ds_one (ds_ret (de_tup (da_cons (de_call G__law_draw (hr.mono (by decide)) hg (takes_of rfl rfl rfl rfl) (B__law_draw_2 T) (by rfl) T.m__law_draw T.F__law_draw.kp (da_cons (de_var (pv 0)) (da_cons de_int da_nil))) (da_cons de_int da_nil))))) ds_nil)
      (ds_cons (ds_if (dt_cmp op_lt (sem_intR0 fun _ _ _ => .bl _) (de_see (pv 1)) de_int (nomark _)) (ds_one (ds_ret (de_call G__law_low (hr.mono (by decide)) hg (takes_of rfl rfl rfl rfl) (B__law_low_2 T) (by rfl) T.m__law_low T.F__law_low.kp (da_cons (de_call G__law_draw (hr.mono (by decide)) hg (takes_of rfl rfl rfl rfl) (B__law_draw_2 T) (by rfl) T.m__law_draw T.F__law_draw.kp (da_cons (de_var (pv 0)) (da_cons de_int da_nil))) (da_cons (de_add de_int (de_call G__law_draw (hr.mono (by decide)) hg (takes_of rfl rfl rfl rfl) (B__law_draw_2 T) (by rfl) T.m__law_draw T.F__law_draw.kp (da_cons (de_var (pv 0)) (da_cons de_int da_nil)))) da_nil))))) ds_nil)
      (ds_one (ds_ret (de_tup (da_cons (de_call G__law_draw (hr.mono (by decide)) hg (takes_of rfl rfl rfl rfl) (B__law_draw_2 T) (by rfl) T.m__law_draw T.F__law_draw.kp (da_cons (de_var (pv 0)) (da_cons (de_pow de_int de_int) da_nil))) (da_cons de_int da_nil))))))))) (fun args Q E h => ?_)
  · obtain ⟨rfl, _⟩ := h; rfl
  · obtain ⟨rfl, _⟩ := h
    intro i o; exact nsee0
  · obtain ⟨rfl, h⟩ := h
    refine set_cutP (fun x => ∃ n : Int, x = .int n) (fun Q hQ => ⟨rfl, rfl, _, rfl, by decide, by decide, fun n _ _ => hQ _ ⟨n, rfl⟩⟩) (fun x hx => ?_)
    obtain ⟨n, rfl⟩ := hx
    refine l_int0 ?_
    refine br (fun _ => ?_) (fun _ => ?_)
    · refine ⟨rfl, rfl, _, rfl, by decide, by decide, fun m h0 h1 => ?_⟩
      refine l_tup rfl rfl ?_
      exact h (m : Rat) (nb_int (by omega)) h0
    · refine l_int0 ?_
      refine br (fun _ => ?_) (fun _ => ?_)
      · refine ⟨rfl, rfl, _, rfl, by decide, by decide, fun m h0 h1 => ?_⟩
        refine ⟨rfl, rfl, _, rfl, by decide, by decide, fun k k0 k1 => ?_⟩
        refine l_addI ?_
        refine ⟨rfl, rfl, _, _, rfl, by omega, ?_, ?_⟩
        · exact Nat.lt_of_lt_of_le (show (1 + k).natAbs < 2 ^ 40 by omega) (Nat.pow_le_pow_right (by decide) (by decide))
        · refine h _ (nb_low (by omega) (by omega) (by omega)) ?_
          rw [low_num (by omega)]
          exact Int.ediv_nonneg h0 (Int.le_of_lt (gcI_pos (by omega)))
      · refine l_int1 ⟨by decide, by decide, by decide⟩ ?_
        refine ⟨rfl, rfl, _, rfl, by decide, by decide, fun m h0 h1 => ?_⟩
        refine l_tup rfl rfl ?_
        have h1' : m < 1000000 := h1
        exact h (m : Rat) (nb_int (by omega)) h0
abbrev n__law_gain : List Str := ["_law_src", "_law_way"]
theorem sc__law_gain : FnScope n__law_gain ["_law_src"] (defScope s__law_gain) := ⟨rfl, rfl, rfl, by decide +kernel, rfl, by decide +kernel, by decide +kernel⟩
theorem ok__law_gain (T : Tx K mg a d) : FnG P w K mg base 2 (a i__law_gain) (d i__law_gain) ["_law_src"] spGain := by
  have G__law_draw : FnG P w K mg base 1 (a i__law_draw) (d i__law_draw) ["_law_src", "_law_many"] spDraw := ok__law_draw T
  have G__law_low : FnG P w K mg base 1 (a i__law_low) (d i__law_low) ["_law_top", "_law_bottom"] spLow := ok__law_low T
  refine fnG_of T.F__law_gain sc__law_gain (fun args Q E h => ?_) (fun args Q E h => ?_) (fun cdv A outer s H E hr hg => (ds_cons (ds_set (i := 1) sc__law_gain.nd rfl (Or.inl rfl) (de_call G__law_draw (hr.mono (by decide)) hg (takes_of rfl rfl rfl rfl) (B__law_draw_2 T) (by rfl) T.m__law_draw T.F__law_draw.kp (da_cons (de_var (pv 0)) (da_cons de_int da_nil))))
      (ds_cons (ds_if (dt_cmp op_lt (sem_intR0 fun _ _ _ => .bl _) (de_see (pv 1)) de_int (nomark _)) (ds_one (ds_ret (de_tup (da_cons de_int (da_cons de_int da_nil))))) ds_nil)
      (ds_cons (ds_if (dt_cmp op_lt (sem_intR0 fun _ _ _ => .bl _) (de_see (pv 1)) de_int (nomark _)) (ds_one (ds_ret (de_tup (da_cons (de_sub (de_call G__law_draw (hr.mono (by decide)) hg (takes_of rfl rfl rfl rfl) (B__law_draw_2 T) (by rfl) T.m__law_draw T.F__law_draw.kp (da_cons (de_var (pv 0)) (da_cons de_int da_nil))) de_int) (da_cons de_int da_nil))))) ds_nil)
      (ds_cons (ds_if (dt_cmp op_lt (sem_intR0 fun _ _ _ => .bl _) (de_see (pv 1)) de_int (nomark _)) (ds_one (ds_ret (de_call G__law_low (hr.mono (by decide)) hg (takes_of rfl rfl rfl rfl) (B__law_low_2 T) (by rfl) T.m__law_low T.F__law_low.kp (da_cons (de_sub (de_call G__law_draw (hr.mono (by decide)) hg (takes_of rfl rfl rfl rfl) (B__law_draw_2 T) (by rfl) T.m__law_draw T.F__law_draw.kp (da_cons (de_var (pv 0)) (da_cons de_int da_nil))) de_int) (da_cons (de_add de_int (de_call G__law_draw (hr.mono (by decide)) hg (takes_of rfl rfl rfl rfl) (B__law_draw_2 T) (by rfl) T.m__law_draw T.F__law_draw.kp (da_cons (de_var (pv 0)) (da_cons de_int da_nil)))) da_nil))))) ds_nil)
      (ds_one (ds_ret (de_tup (da_cons (de_sub (de_call G__law_draw (hr.mono (by decide)) hg (takes_of rfl rfl rfl rfl) (B__law_draw_2 T) (by rfl) T.m__law_draw T.F__law_draw.kp (da_cons (de_var (pv 0)) (da_cons (de_pow de_int de_int) da_nil))) (de_pow de_int de_int)) (da_cons de_int da_nil)))))))))) (fun args Q E h => ?_)
  · obtain ⟨rfl, _⟩ := h; rfl
  · obtain ⟨rfl, _⟩ := h
    intro i o; exact nsee0
  · obtain ⟨rfl, h⟩ := h
    refine set_cutP (fun x => ∃ n : Int, x = .int n) (fun Q hQ => ⟨rfl, rfl, _, rfl, by decide, by decide, fun n _ _ => hQ _ ⟨n, rfl⟩⟩) (fun x hx => ?_)
    obtain ⟨n, rfl⟩ := hx
    refine l_int0 ?_
    refine br (fun _ => ?_) (fun _ => ?_)
    · refine l_tup rfl rfl ?_
      exact h (0 : Int) (nb_int (by decide))
    · refine l_int0 ?_
      refine br (fun _ => ?_) (fun _ => ?_)
      · refine ⟨rfl, rfl, _, rfl, by decide, by decide, fun m h0 h1 => ?_⟩
        refine l_int0 ?_
        refine l_tup rfl rfl ?_
        exact h ((m - 3 : Int) : Rat) (nb_int (by omega))
      · refine l_int0 ?_
        refine br (fun _ => ?_) (fun _ => ?_)
        · refine ⟨rfl, rfl, _, rfl, by decide, by decide, fun m h0 h1 => ?_⟩
          refine l_int0 ?_
          refine ⟨rfl, rfl, _, rfl, by decide, by decide, fun k k0 k1 => ?_⟩
          refine l_addI ?_
          refine ⟨rfl, rfl, _, _, rfl, by omega, ?_, ?_⟩
          · exact Nat.lt_of_lt_of_le (show (1 + k).natAbs < 2 ^ 40 by omega) (Nat.pow_le_pow_right (by decide) (by decide))
          · exact h _ (nb_low (by omega) (by omega) (by omega))
        · refine l_int1 ⟨by decide, by decide, by decide⟩ ?_
          refine ⟨rfl, rfl, _, rfl, by decide, by decide, fun m h0 h1 => ?_⟩
          refine l_int1 ⟨by decide, by decide, by decide⟩ ?_
          refine l_int0 ?_
          refine l_tup rfl rfl ?_
          have h1' : m < 1000000000 := h1
          exact h ((m - 100000000 : Int) : Rat) (nb_int (by omega))
/-! ### drawn rows -/
structure Row where
  fs : List Rat
  b : Rat
  st : Bool
def rowD (r : Row) : D := .tup [.lst (rL r.fs), rD r.b, .bl r.st]
def rowOk (n : Nat) (r : Row) : Prop := r.fs.length = n ∧ (∀ p ∈ r.fs, Nb 60 p) ∧ Nb 3000 r.b
def spRows : SpD := fun args Q _ => ∃ n m : Nat, args = [.src, .d (.int n), .d (.int m)] ∧ n ≤ 30 ∧ m ≤ 30 ∧ ∀ rs : List Row, rs.length = m → (∀ r ∈ rs, rowOk n r) → Q (.own (.lst (rs.map rowD)))
theorem row_ex {n : Nat} : ∀ {xs : List D}, (∀ x ∈ xs, ∃ r, rowOk n r ∧ x = rowD r) → ∃ rs : List Row, xs = rs.map rowD ∧ ∀ r ∈ rs, rowOk n r
  | [], _ => ⟨[], rfl, fun _ h => (nomatch h)⟩
  | x :: xs, h => by
    obtain ⟨r, h1, h2⟩ := h x (List.mem_cons_self ..)
    obtain ⟨rs, h3, h4⟩ := row_ex (xs := xs) fun y hy => h y (List.mem_cons_of_mem _ hy)
    refine ⟨r :: rs, by rw [h2, h3]; rfl, fun z hz => ?_⟩
    rcases List.mem_cons.mp hz with e | e
    · rw [e]; exact h1
    · exact h4 z e
theorem rat_ex {R : Rat → Prop} : ∀ {xs : List D}, (∀ x ∈ xs, ∃ r, R r ∧ x = rD r) → ∃ rs : List Rat, xs = rL rs ∧ ∀ r ∈ rs, R r
  | [], _ => ⟨[], rfl, fun _ h => (nomatch h)⟩
  | x :: xs, h => by
    obtain ⟨r, h1, h2⟩ := h x (List.mem_cons_self ..)
    obtain ⟨rs, h3, h4⟩ := rat_ex (xs := xs) fun y hy => h y (List.mem_cons_of_mem _ hy)
    refine ⟨r :: rs, by rw [h2, h3]; rfl, fun z hz => ?_⟩
    rcases List.mem_cons.mp hz with e | e
    · rw [e]; exact h1
    · exact h4 z e
theorem nsee3 {x y : D} {i : Nat} {o : OO} : [DV.src, DV.d x, DV.d y][i]? ≠ some (.see o) := by
  intro z
  match i with
  | 0 => cases z
  | 1 => cases z
  | 2 => cases z
  | i + 3 => simp at z
abbrev n__law_rows : List Str := ["_law_src", "_law_size", "_law_many", "_law_k", "_law_j"]
theorem sc__law_rows : FnScope n__law_rows ["_law_src", "_law_size", "_law_many"] (defScope s__law_rows) := ⟨rfl, rfl, rfl, by decide +kernel, rfl, by decide +kernel, by decide +kernel⟩
theorem ok__law_rows (T : Tx K mg a d) : FnG P w K mg base 3 (a i__law_rows) (d i__law_rows) ["_law_src", "_law_size", "_law_many"] spRows := by
  have G__law_draw : FnG P w K mg base 1 (a i__law_draw) (d i__law_draw) ["_law_src", "_law_many"] spDraw := ok__law_draw T
  have G__law_gain : FnG P w K mg base 2 (a i__law_gain) (d i__law_gain) ["_law_src"] spGain := ok__law_gain T
  refine fnG_of T.F__law_rows sc__law_rows (fun args Q E h => ?_) (fun args Q E h => ?_) (fun cdv A outer s H E hr hg => (ds_one (ds_ret (de_lc (own := [("_law_k", 3)]) rfl sc__law_rows.nd (di_rng1 (by rfl) T.n_range (da_cons (de_var (pv 2)) da_nil)) (blkOk_by (own := [("_law_k", 3)]) (N := n__law_rows) (sc := (defScope s__law_rows)) (by decide +kernel)) (fun _ _ _ _ _ => (dg_name (i := 3) sc__law_rows.nd rfl (Or.inl rfl))) (fun _ _ _ _ _ => dts_nil) (fun _ _ _ _ _ => (de_tup (da_cons (de_lc (own := [("_law_j", 4)]) rfl sc__law_rows.nd (di_rng1 (by rfl) T.n_range (da_cons (de_var (pv 1)) da_nil)) (blkOk_by (own := [("_law_j", 4)]) (N := n__law_rows) (sc := _) (by kernel_rfl)) (fun _ _ _ _ _ => (dg_name (i := 4) sc__law_rows.nd rfl (Or.inl rfl))) (fun _ _ _ _ _ => dts_nil) (fun _ _ _ _ _ => (de_call G__law_gain (hr.mono (by decide)) hg takes0 (B__law_gain_1 T) (by rfl) T.m__law_gain T.F__law_gain.kp (da_cons (de_var (pv 0)) da_nil)))) (da_cons (de_call G__law_gain (hr.mono (by decide)) hg takes0 (B__law_gain_1 T) (by rfl) T.m__law_gain T.F__law_gain.kp (da_cons (de_var (pv 0)) da_nil)) (da_cons (de_cmp (op_eqAll hr.units) sem_eq (de_call G__law_draw (hr.mono (by decide)) hg takes0 (B__law_draw_2 T) (by rfl) T.m__law_draw T.F__law_draw.kp (da_cons (de_var (pv 0)) (da_cons de_int da_nil))) de_int (nomark _)) da_nil))))))))) (fun args Q E h => ?_)
  · obtain ⟨_, _, rfl, _⟩ := h; rfl
  · obtain ⟨_, _, rfl, _⟩ := h
    intro i o; exact nsee3
  · obtain ⟨n, m, rfl, hn, hm, h⟩ := h
    refine l_rng1 (by omega) (by omega) ?_
    refine lcL_rel (fun x => ∃ r, rowOk n r ∧ x = rowD r) _ ?_ (fun d hd M A mm => ?_) (fun xs hl hR => ?_)
    · rw [intsFrom_len]; have : szl = 16777216 := rfl; omega
    · refine brT ?_
      refine l_rng1 (by omega) (by omega) ?_
      refine lcL_rel (fun x => ∃ q, Nb 60 q ∧ x = rD q) _ ?_ (fun d' hd' M' A' mm' => ?_) (fun ys hl' hR' => ?_)
      · rw [intsFrom_len]; have : szl = 16777216 := rfl; omega
      · refine brT ?_
        exact ⟨rfl, rfl, rfl, fun q hq => mm' _ ⟨q, hq.mono (by decide), rfl⟩⟩
      · obtain ⟨fs, rfl, hfs⟩ := rat_ex hR'
        rw [intsFrom_len] at hl'
        have hl2 : fs.length = n := by simpa [rL] using hl'
        refine ⟨rfl, rfl, rfl, fun q hq => ?_⟩
        refine ⟨rfl, rfl, _, rfl, by decide, by decide, fun k k0 k1 => ?_⟩
        refine l_eqI ?_
        refine l_tup rfl rfl ?_
        exact mm _ ⟨⟨fs, q, _⟩, ⟨hl2, hfs, hq.mono (by decide)⟩, rfl⟩
    · obtain ⟨rs, rfl, hrs⟩ := row_ex hR
      rw [intsFrom_len] at hl
      exact h rs (by simpa using hl) hrs
end
end K08

set_option Elab.async false
set_option linter.all false
set_option maxRecDepth 100000
set_option maxHeartbeats 4000000
namespace K08
open PySem PySem.Spec PyProof.Rows L2 DL
section
variable {P : Program} {w : World} {K : PySem.W.Frag} {mg : Str → Option Value} {base : Heap} {a : Nat → Addr} {d : Nat → FuncData}
/-! ### what is kept -/
def rowBad (vs : List Rat) (l : Bool) (r : Row) : Bool := decide (r.b < dotQ r.fs vs) || (r.st && (!l && decide (dotQ r.fs vs = r.b)))
def keepB (rs : List Row) (vs : List Rat) (l : Bool) : Bool := rs.all (fun r => !rowBad vs l r) && vs.all fun v => !decide (v.num < 0)
theorem nb_dot : ∀ {ps qs : List Rat}, (∀ p ∈ ps, Nb 60 p) → (∀ q ∈ qs, Nb 60 q) → Nb (121 * ps.length + 1) (dotQ ps qs)
  | [], [], _, _ => nb_zero
  | [], _ :: _, _, _ => nb_zero
  | _ :: _, [], _, _ => nb_zero.mono (by omega)
  | p :: ps, q :: qs, hp, hq => by
    have h1 := nb_mul (hp p (List.mem_cons_self ..)) (hq q (List.mem_cons_self ..))
    have h2 := nb_dot (ps := ps) (qs := qs) (fun x hx => hp x (List.mem_cons_of_mem _ hx)) (fun x hx => hq x (List.mem_cons_of_mem _ hx))
    exact (nb_add h1 h2).mono (by rw [List.length_cons]; omega)
def prP (q : Rat) : PyData := .tuple [.int q.num, .int q.den]
theorem py_rL : ∀ qs : List Rat, D.pyAll (rL qs) = some (qs.map prP)
  | [] => by simp [rL, D.pyAll]
  | q :: qs => by
    show D.pyAll (rD q :: rL qs) = _
    unfold D.pyAll
    rw [py_rL qs]; rfl
theorem lay_rL : ∀ qs : List Rat, PyData.canLayAll0 (qs.map prP) = true ∧ PyData.depthAll (qs.map prP) ≤ 1
  | [] => ⟨by simp [PyData.canLayAll0], by simp [PyData.depthAll]⟩
  | q :: qs => by
    obtain ⟨h1, h2⟩ := lay_rL qs
    refine ⟨?_, ?_⟩
    · rw [List.map_cons]; unfold PyData.canLayAll0; rw [h1]; simp [prP, PyData.canLay0, PyData.canLayAll0]
    · rw [List.map_cons]; unfold PyData.depthAll
      exact Nat.max_le.mpr ⟨by simp [prP, PyData.depth, PyData.depthAll], h2⟩
theorem l_eqNil {qs : List Rat} {v : DV} {Q : DV → Prop} (hv : v.dat = some (.lst (rL qs))) (h : Q (.d (.bl qs.isEmpty))) : eqR false v (.own (.lst [])) Q := by
  obtain ⟨h1, h2⟩ := lay_rL qs
  refine l_eqD (p := .list (qs.map prP)) (p' := .list []) hv rfl (by unfold D.py; rw [py_rL]; rfl) rfl ?_ (by decide +kernel) (.inl ⟨_, rfl⟩) ?_
  · simp only [SeqAt.shaped, PyData.canLay0, h1, PyData.depth, Bool.true_and]
    exact decide_eq_true (by omega)
  · rw [eqv_nil, List.isEmpty_map]; exact h
def spLKeeps : SpD := fun args Q _ => ∃ (rs : List Row) (vs : List Rat) (l : Bool), args = [.d (.lst (rs.map rowD)), .d (.lst (rL vs)), .d (.bl l)] ∧ vs.length ≤ 30 ∧ (∀ r ∈ rs, rowOk vs.length r) ∧ (∀ v ∈ vs, Nb 60 v) ∧ Q (.d (.bl (keepB rs vs l)))
theorem nseeD3 {x y z : D} {i : Nat} {o : OO} : [DV.d x, DV.d y, DV.d z][i]? ≠ some (.see o) := by
  intro q
  match i with
  | 0 => cases q
  | 1 => cases q
  | 2 => cases q
  | i + 3 => simp at q
def negD : D → Bool
  | .tup (.int n :: _) => decide (n < 0)
  | _ => false
abbrev n__law_keeps : List Str := ["_law_rows_here", "_law_values_z", "_law_loose_z", "_law_factors", "_law_bound", "_law_strict", "_law_got", "_law_one"]
theorem sc__law_keeps : FnScope n__law_keeps ["_law_rows_here", "_law_values_z", "_law_loose_z"] (defScope s__law_keeps) := ⟨rfl, rfl, rfl, by decide +kernel, rfl, by decide +kernel, by decide +kernel⟩
theorem ok__law_keeps (T : Tx K mg a d) : FnG P w K mg base 5 (a i__law_keeps) (d i__law_keeps) ["_law_rows_here", "_law_values_z", "_law_loose_z"] spLKeeps := by
  have G__law_dot : FnG P w K mg base 4 (a i__law_dot) (d i__law_dot) ["_law_one", "_law_other"] spLDot := ok__law_dot T
  have G__law_less : FnG P w K mg base 1 (a i__law_less) (d i__law_less) ["_law_one", "_law_other"] (spRat2 fun p q => .d (.bl (decide (p < q)))) := ok__law_less T
  refine fnG_of T.F__law_keeps sc__law_keeps (fun args Q E h => ?_) (fun args Q E h => ?_) (fun cdv A outer s H E hr hg => (ds_cons (ds_for (passes_of rfl) rfl (di_any (de_var (pv 0))) (dg_tup (n := 3) (K := K) rfl (dgs_cons (dg_name (i := 3) sc__law_keeps.nd rfl (Or.inl rfl)) (dgs_cons (dg_name (i := 4) sc__law_keeps.nd rfl (Or.inl rfl)) (dgs_cons (dg_name (i := 5) sc__law_keeps.nd rfl (Or.inl rfl)) dgs_nil)))) (ds_cons (ds_set (i := 6) sc__law_keeps.nd rfl (Or.inl rfl) (de_call G__law_dot (hr.mono (by decide)) hg (takes_of rfl rfl rfl rfl) (B__law_dot_2 T) (by rfl) T.m__law_dot T.F__law_dot.kp (da_cons (de_var (pv 3)) (da_cons (de_var (pv 1)) da_nil))))
      (ds_one (ds_if (DW.dt (dw_or (dt_val (de_call G__law_less (hr.mono (by decide)) hg (takes_of rfl rfl rfl rfl) (B__law_less_2 T) (by rfl) T.m__law_less T.F__law_less.kp (da_cons (de_var (pv 4)) (da_cons (de_var (pv 6)) da_nil)))) (dw_or1 (DW.dt (dw_and (dt_val (de_see (pv 5))) (dw_and (dt_not (dt_val (de_see (pv 2)))) (dw_and1 (dt_cmp (op_eqAll hr.units) sem_eq (de_see (pv 6)) (de_see (pv 4)) (nomark _))))))))) (ds_one (ds_ret de_bl)) ds_nil))))
      (ds_one (ds_ret (de_cmp (op_eqAll hr.units) sem_eq (de_lc (own := [("_law_one", 7)]) rfl sc__law_keeps.nd (di_any (de_var (pv 1))) (blkOk_by (own := [("_law_one", 7)]) (N := n__law_keeps) (sc := (defScope s__law_keeps)) (by decide +kernel)) (fun _ _ _ _ _ => (dg_name (i := 7) sc__law_keeps.nd rfl (Or.inl rfl))) (fun _ _ _ _ _ => (dts_one (dt_cmp op_lt (sem_intR0 fun _ _ _ => .bl _) (de_ix ix_seq sem_ix (de_see (pv 7)) de_int (fun _ _ => rfl)) de_int (nomark _)))) (fun _ _ _ _ _ => (de_var (pv 7)))) (de_lst da_nil) (nomark _)))))) (fun args Q E h => ?_)
  · obtain ⟨_, _, _, rfl, _⟩ := h; rfl
  · obtain ⟨_, _, _, rfl, _⟩ := h
    intro i o; exact nseeD3
  · obtain ⟨rs, vs, l, rfl, h30, hrs, hvs, h⟩ := h
    refine seq_cut (fun s => (∃ x y z u, s = [some (.d (.lst (rs.map rowD))), some (.d (.lst (rL vs))), some (.d (.bl l)), x, y, z, u, none]) ∧ rs.all (fun r => !rowBad vs l r) = true) (fun N hN => ?_) (fun s hs => ?_)
    · refine l_iterL ?_
      refine forL_ind (fun r s => ∃ (rs' : List Row) (x y z u : Option DV), r = rs'.map rowD ∧ s = [some (.d (.lst (rs.map rowD))), some (.d (.lst (rL vs))), some (.d (.bl l)), x, y, z, u, none] ∧ rs'.all (fun r => !rowBad vs l r) = rs.all (fun r => !rowBad vs l r) ∧ ∀ r ∈ rs', rowOk vs.length r) ?_ ?_ _ _ ⟨rs, none, none, none, none, rfl, rfl, rfl, hrs⟩
      · rintro N' d r s hN' ⟨rs', x, y, z, u, e, rfl, ha, ho⟩
        rcases rs' with _ | ⟨r1, rs'⟩
        · cases e
        · cases e
          obtain ⟨o1, o2, o3⟩ := ho r1 (List.mem_cons_self ..)
          have nd : Nb 3900 (dotQ r1.fs vs) := (nb_dot o2 hvs).mono (by omega)
          refine ⟨rfl, ?_⟩
          refine ⟨rfl, rfl, r1.fs, vs, rfl, o1, by omega, o2, hvs, ?_⟩
          have bad : rowBad vs l r1 = true → Q (.d (.bl false)) := fun hb => by
            have : keepB rs vs l = false := by
              unfold keepB
              rw [← ha, List.all_cons, hb]; rfl
            rw [this] at h; exact h
          have good : rowBad vs l r1 = false → N' [some (.d (.lst (rs.map rowD))), some (.d (.lst (rL vs))), some (.d (.bl l)), some (.d (.lst (rL r1.fs))), some (.d (rD r1.b)), some (.d (.bl r1.st)), some (.d (rD (dotQ r1.fs vs))), none] := fun hb =>
            hN' _ ⟨rs', _, _, _, _, rfl, rfl, by rw [← ha, List.all_cons, hb]; rfl, fun z hz => ho z (List.mem_cons_of_mem _ hz)⟩
          unfold rowBad at bad good
          refine ⟨rfl, rfl, r1.b, dotQ r1.fs vs, rfl, o3.mono (by decide), nd, ?_⟩
          refine l_truB ?_
          refine br (fun h1 => ?_) (fun h1 => ?_)
          · exact brT (bad (by rw [h1]; rfl))
          · rw [h1, Bool.false_or] at bad good
            refine l_truB ?_
            refine br (fun h2 => ?_) (fun h2 => ?_)
            · refine l_truB ?_
              cases l with
              | true => exact brF (brF (good (by rw [h2]; rfl)))
              | false =>
                refine brT ?_
                refine l_eqRat ?_
                exact br (fun h3 => bad (by rw [h2]; exact h3)) (fun h3 => good (by rw [h2]; exact h3))
            · exact brF (good (by rw [h2]; rfl))
      · rintro s ⟨rs', x, y, z, u, e, rfl, ha, ho⟩
        rcases rs' with _ | ⟨r1, rs'⟩
        · exact hN _ ⟨⟨x, y, z, u, rfl⟩, by rw [← ha]; rfl⟩
        · cases e
    · obtain ⟨⟨x, y, z, u, rfl⟩, ha⟩ := hs
      refine l_iterL ?_
      refine lcL_fm negD id _ _ [] ?_ (fun d hd M A m1 m2 => ?_) ?_
      · simp [rL]; have : szl = 16777216 := rfl; omega
      · obtain ⟨q, _, rfl⟩ := List.mem_map.mp hd
        refine l_ixT rfl ?_
        refine l_int0 ?_
        exact br m1 m2
      · refine l_lst rfl rfl ?_
        have e1 : [] ++ List.map id ((rL vs).filter negD) = rL (vs.filter fun v => decide (v.num < 0)) := by
          rw [List.nil_append, List.map_id]
          exact List.filter_map
        rw [e1]
        refine l_eqNil rfl ?_
        have e2 : keepB rs vs l = (vs.filter fun v => decide (v.num < 0)).isEmpty := by
          unfold keepB
          rw [ha, Bool.true_and, Bool.eq_iff_iff, List.all_eq_true, List.isEmpty_iff, List.filter_eq_nil_iff]
          simp
        rw [e2] at h
        exact h
end
end K08

set_option Elab.async false
set_option linter.all false
set_option maxRecDepth 100000
set_option maxHeartbeats 4000000
namespace K08
open PySem PySem.Spec PyProof.Rows L2 DL
section
variable {P : Program} {w : World} {K : PySem.W.Frag} {mg : Str → Option Value} {base : Heap} {a : Nat → Addr} {d : Nat → FuncData}
/-! ### is_row: of a row that is one -/
def spRow : SpD := fun args Q _ => ∃ (r : Row), args = [.d (rowD r), .d (.int (r.fs.length : Int))] ∧ r.fs.length ≤ 60 ∧ Q (.d (.bl true))
theorem ks_list : kitBs "list" ["list", "tuple"] = some true := by decide +kernel
theorem ks_tuple : kitBs "tuple" ["list", "tuple"] = some true := by decide +kernel
theorem ks_non : kitBs "NoneType" ["list", "tuple"] = some false := by decide +kernel
theorem ks_int : kitBs "int" ["list", "tuple"] = some false := by decide +kernel
theorem ks_str : kitBs "str" ["list", "tuple"] = some false := by decide +kernel
theorem valued_rD (q : Rat) : (wholeD (rD q) || ratioD (rD q)) = true := by rw [ratioD_rD, Bool.or_true]
theorem pair_rD (q : Rat) : pairK (rD q) := ⟨rfl, rfl⟩
abbrev n_is_row : List Str := ["value", "size", "factor"]
theorem sc_is_row : FnScope n_is_row ["value", "size"] (defScope s_is_row) := ⟨rfl, rfl, rfl, by decide +kernel, rfl, by decide +kernel, by decide +kernel⟩
theorem ok_is_row (T : Tx K mg a d) : FnG P w K mg base 4 (a i_is_row) (d i_is_row) ["value", "size"] spRow := by
  have G_is_valued : FnG P w K mg base 3 (a i_is_valued) (d i_is_valued) ["value"] spValued := ok_is_valued T
  refine fnG_of T.F_is_row sc_is_row (fun args Q E h => ?_) (fun args Q E h => ?_) (fun cdv A outer s H E hr hg => (ds_cons (ds_if (DW.dt (dw_or (dt_not (dt_val (de_callB call_isi sem_isi (by rfl) T.n_isinstance (by decide +kernel) (da_cons (de_see (pv 0)) (da_cons (de_ty (T := "tuple") (by rfl) T.n_tuple (by decide +kernel)) da_nil))))) (dw_or (dt_cmp (op_neAll hr.units) sem_ne (de_callB call_len sem_len (by rfl) T.n_len PySem.boot_len (da_cons (de_see (pv 0)) da_nil)) de_int (nomark _)) (dw_or1 (dt_not (dt_val (de_callB call_isiS sem_isiT (by rfl) T.n_isinstance (by decide +kernel) (da_cons (de_ix ix_seq sem_ix (de_see (pv 0)) de_int (fun _ _ => rfl)) (da_cons (de_tup (da_cons (de_ty (T := "list") (by rfl) T.n_list (by decide +kernel)) (da_cons (de_ty (T := "tuple") (by rfl) T.n_tuple (by decide +kernel)) da_nil))) da_nil))))))))) (ds_one (ds_ret de_bl)) ds_nil)
      (ds_cons (ds_if (DW.dt (dw_or (dt_cmp (op_neAll hr.units) sem_ne (de_callB call_len sem_len (by rfl) T.n_len PySem.boot_len (da_cons (de_ix ix_seq sem_ix (de_see (pv 0)) de_int (fun _ _ => rfl)) da_nil)) (de_see (pv 1)) (nomark _)) (dw_or1 (dt_not (dt_val (de_callB (cr_all rfl) sem_all (by rfl) T.n_all (by decide +kernel) (da_cons (de_lc (own := [("factor", 2)]) rfl sc_is_row.nd (di_any (de_ix ix_seq sem_ix (de_see (pv 0)) de_int (fun _ _ => rfl))) (blkOk_by (own := [("factor", 2)]) (N := n_is_row) (sc := (defScope s_is_row)) (by decide +kernel)) (fun _ _ _ _ _ => (dg_name (i := 2) sc_is_row.nd rfl (Or.inl rfl))) (fun _ _ _ _ _ => dts_nil) (fun _ _ _ _ _ => (de_call G_is_valued (hr.mono (by decide)) hg takes0 (B_is_valued_1 T) (by rfl) T.m_is_valued T.F_is_valued.kp (da_cons (de_var (pv 2)) da_nil)))) da_nil))))))) (ds_one (ds_ret de_bl)) ds_nil)
      (ds_one (ds_ret (de_and (de_call G_is_valued (hr.mono (by decide)) hg (takes_of rfl rfl rfl rfl) (B_is_valued_1 T) (by rfl) T.m_is_valued T.F_is_valued.kp (da_cons (de_ix ix_seq sem_ix (de_see (pv 0)) de_int (fun _ _ => rfl)) da_nil)) (de_one (de_callB call_isi sem_isi (by rfl) T.n_isinstance (by decide +kernel) (da_cons (de_ix ix_seq sem_ix (de_see (pv 0)) de_int (fun _ _ => rfl)) (da_cons (de_ty (T := "bool") (by rfl) T.n_bool (by decide +kernel)) da_nil)))))))))) (fun args Q E h => ?_)
  · obtain ⟨_, rfl, _⟩ := h; rfl
  · obtain ⟨_, rfl, _⟩ := h
    intro i o; exact nsee2
  · obtain ⟨r, rfl, h60, h⟩ := h
    refine seq_cut (fun s => s = [some (.d (rowD r)), some (.d (.int (r.fs.length : Int))), none]) (fun N hN => ?_) (fun s hs => ?_)
    · refine isi_ok (x := .d (rowD r)) (T := "tuple") rfl rfl k_tuple_tuple ?_
      refine l_truB (brF ?_)
      refine l_lenT ?_
      refine l_eqI (brF ?_)
      refine l_ixT rfl ?_
      refine l_tup rfl rfl ?_
      refine l_isiT (d := .lst (rL r.fs)) rfl rfl rfl ks_list ?_
      exact l_truB (brF (hN _ rfl))
    · subst hs
      refine seq_cut (fun s => s = [some (.d (rowD r)), some (.d (.int (r.fs.length : Int))), none]) (fun N hN => ?_) (fun s hs => ?_)
      · refine l_ixT rfl ?_
        refine l_lenL (ds := rL r.fs) rfl ?_
        have e1 : (rL r.fs).length = r.fs.length := by simp [rL]
        rw [e1]
        refine l_eqI ?_
        rw [decide_eq_true rfl]
        refine brF ?_
        refine l_ixT rfl ?_
        refine l_iterL ?_
        refine lcL_map (fun _ => .bl true) _ ?_ (fun d hd M A m => ?_) ?_
        · rw [e1]; have : szl = 16777216 := rfl; omega
        · obtain ⟨q, _, rfl⟩ := List.mem_map.mp hd
          refine brT ?_
          refine ⟨rfl, rfl, rD q, rfl, rfl, pair_rD q, ?_⟩
          rw [valued_rD]
          exact m
        · refine l_all (bs := (rL r.fs).map fun _ => true) rfl (bools_map (fun _ => true) _) ?_
          have : ((rL r.fs).map fun _ => true).all id = true := by simp
          rw [this]
          exact l_truB (brF (hN _ rfl))
      · subst hs
        refine l_ixT rfl ?_
        refine ⟨rfl, rfl, rD r.b, rfl, rfl, pair_rD r.b, ?_⟩
        rw [valued_rD]
        refine brT ?_
        refine l_ixT rfl ?_
        exact isi_ok (x := .d (.bl r.st)) (T := "bool") rfl rfl k_bool_bool h
/-! ### Problem -/
def rowT (r : Row) : D := .tup [.tup (rL r.fs), rD r.b, .bl r.st]
def spInit : SpI := fun args Q _ => ∃ (n : Nat) (rs : List Row), args = [.d (.int (n : Int)), .d (.lst (rs.map rowD))] ∧ n ≤ 60 ∧ rs.length ≤ 1000 ∧ (∀ r ∈ rs, r.fs.length = n) ∧ Q [("own_size", .int (n : Int)), ("own_rows", .lst (rs.map rowT))]
abbrev n_Problem___init__ : List Str := ["self", "size", "rows", "at", "row", "factors", "bound", "strict", "factor"]
theorem sc_Problem___init__ : FnScope n_Problem___init__ ["self", "size", "rows"] (defScope s_Problem___init__) := ⟨rfl, rfl, rfl, by decide +kernel, rfl, by decide +kernel, by decide +kernel⟩
abbrev CP (K : PySem.W.Frag) : Addr := He.ga K "Problem"
theorem mem_enum {d : D} : ∀ {ds : List D} {i : Int}, d ∈ enumFrom i ds → ∃ (j : Int) (x : D), x ∈ ds ∧ d = .tup [.int j, x]
  | [], _, h => by cases h
  | y :: ys, i, h => by
    rcases List.mem_cons.mp h with e | e
    · exact ⟨i, y, List.mem_cons_self .., e⟩
    · obtain ⟨j, x, h1, h2⟩ := mem_enum e
      exact ⟨j, x, List.mem_cons_of_mem _ h1, h2⟩
def tOfD : D → D
  | .tup [.lst fs, b, s] => .tup [.tup fs, b, s]
  | x => x
theorem ok_Problem___init__ (T : Tx K mg a d) : FnR P w K mg base 5 (a i_Problem___init__) (d i_Problem___init__) ["self", "size", "rows"] (upIn K (CP K) spInit) := by
  have G_is_number : FnG P w K mg base 2 (a i_is_number) (d i_is_number) ["value", "least", "most"] spNumber := ok_is_number T
  have G_is_row : FnG P w K mg base 4 (a i_is_row) (d i_is_row) ["value", "size"] spRow := ok_is_row T
  have G_ratio_of : FnG P w K mg base 3 (a i_ratio_of) (d i_ratio_of) ["value"] spRatioOf := ok_ratio_of T
  refine fnI_of T.F_Problem___init__ sc_Problem___init__ (fun args Q E h => ?_) (fun args Q E h => ?_) (fun cdv A outer s H E hr hg => (ds_cons (ds_if (dt_not (dt_val (de_call G_is_number (hr.mono (by decide)) hg (takes_of rfl rfl rfl rfl) (B_is_number_3 T) (by rfl) T.m_is_number T.F_is_number.kp (da_cons (de_var (pv 1)) (da_cons de_int (da_cons (de_globD (by rfl) T.c_MOST_UNKNOWNS) da_nil)))))) (ds_one ds_never) ds_nil)
      (ds_cons (ds_for (passes_of rfl) rfl (di_enum (by rfl) T.n_enumerate (da_cons (de_var (pv 2)) da_nil)) (dg_tup (n := 2) (K := K) rfl (dgs_cons (dg_name (i := 3) sc_Problem___init__.nd rfl (Or.inl rfl)) (dgs_cons (dg_name (i := 4) sc_Problem___init__.nd rfl (Or.inl rfl)) dgs_nil))) (ds_one (ds_if (dt_not (dt_val (de_call G_is_row (hr.mono (by decide)) hg (takes_of rfl rfl rfl rfl) (B_is_row_2 T) (by rfl) T.m_is_row T.F_is_row.kp (da_cons (de_var (pv 4)) (da_cons (de_var (pv 1)) da_nil))))) (ds_one ds_never) ds_nil)))
      (ds_cons (ds_fld (K := K) (pv 0) (de_var (pv 1)))
      (ds_one (ds_fld (K := K) (pv 0) (de_lc (own := [("factors", 5), ("bound", 6), ("strict", 7)]) rfl sc_Problem___init__.nd (di_any (de_var (pv 2))) (blkOk_by (own := [("factors", 5), ("bound", 6), ("strict", 7)]) (N := n_Problem___init__) (sc := (defScope s_Problem___init__)) (by decide +kernel)) (fun _ _ _ _ _ => (dg_tup (n := 3) (K := K) rfl (dgs_cons (dg_name (i := 5) sc_Problem___init__.nd rfl (Or.inl rfl)) (dgs_cons (dg_name (i := 6) sc_Problem___init__.nd rfl (Or.inl rfl)) (dgs_cons (dg_name (i := 7) sc_Problem___init__.nd rfl (Or.inl rfl)) dgs_nil))))) (fun _ _ _ _ _ => dts_nil) (fun _ _ _ _ _ => (de_tup (da_cons (de_callT call_tuple_of sem_tuple (by rfl) T.n_tuple (by decide +kernel) (da_cons (de_lc (own := [("factor", 8)]) rfl sc_Problem___init__.nd (di_any (de_var (pv 5))) (blkOk_by (own := [("factor", 8)]) (N := n_Problem___init__) (sc := _) (by kernel_rfl)) (fun _ _ _ _ _ => (dg_name (i := 8) sc_Problem___init__.nd rfl (Or.inl rfl))) (fun _ _ _ _ _ => dts_nil) (fun _ _ _ _ _ => (de_call G_ratio_of (hr.mono (by decide)) hg takes0 (B_ratio_of_1 T) (by rfl) T.m_ratio_of T.F_ratio_of.kp (da_cons (de_var (pv 8)) da_nil)))) da_nil)) (da_cons (de_call G_ratio_of (hr.mono (by decide)) hg takes0 (B_ratio_of_1 T) (by rfl) T.m_ratio_of T.F_ratio_of.kp (da_cons (de_var (pv 6)) da_nil)) (da_cons (de_var (pv 7)) da_nil)))))))))))) (fun args Q E x h => ?_)
  · obtain ⟨_, _, rfl, _⟩ := h; rfl
  · obtain ⟨_, _, rfl, _⟩ := h
    intro i o
    match i with
    | 0 => exact ⟨fun q => (by cases q), fun q => (by cases q)⟩
    | 1 => exact ⟨fun q => (by cases q), fun q => (by cases q)⟩
    | i + 2 => exact ⟨by simp, by simp⟩
  · obtain ⟨n, rs, rfl, hn, hlen, hrs, h⟩ := h
    refine seq_cut (fun s => s = startD n_Problem___init__ [.own (.ins x (CP K) []), .d (.int (n : Int)), .d (.lst (rs.map rowD))]) (fun N hN => ?_) (fun s hs => ?_)
    · refine ⟨rfl, rfl, .int (n : Int), 0, 60, rfl, rfl, ?_⟩
      have e : numD 0 60 (.int (n : Int)) = true := by
        show (decide ((0 : Int) ≤ n) && decide ((n : Int) ≤ 60)) = true
        rw [decide_eq_true (by omega), decide_eq_true (by omega)]; rfl
      rw [e]
      exact l_truB (brF (hN _ rfl))
    subst hs
    refine seq_cut (fun s => ∃ y z, s = [some (.own (.ins x (CP K) [])), some (.d (.int (n : Int))), some (.d (.lst (rs.map rowD))), y, z, none, none, none, none]) (fun N hN => ?_) (fun s hs => ?_)
    · refine l_enum ?_
      refine forL_inv (fun s => ∃ y z, s = [some (.own (.ins x (CP K) [])), some (.d (.int (n : Int))), some (.d (.lst (rs.map rowD))), y, z, none, none, none, none]) _ _ ⟨_, _, rfl⟩ (fun N' d s hN' hd hs => ?_) hN
      obtain ⟨y, z, rfl⟩ := hs
      obtain ⟨j, y1, hy, rfl⟩ := mem_enum hd
      obtain ⟨r, hr, rfl⟩ := List.mem_map.mp hy
      refine ⟨rfl, ?_⟩
      have el := hrs r hr
      refine ⟨rfl, rfl, r, by rw [el]; rfl, by omega, ?_⟩
      exact l_truB (brF (hN' _ ⟨_, _, rfl⟩))
    obtain ⟨y, z, rfl⟩ := hs
    refine ⟨T.cl_Problem, T.na_Problem_own_size, by show 0 < 1000; decide, ?_⟩
    refine l_iterL ?_
    refine lcL_map tOfD _ ?_ (fun d hd M A m => ?_) ?_
    · rw [List.length_map]; have : szl = 16777216 := rfl; omega
    · obtain ⟨r, hr, rfl⟩ := List.mem_map.mp hd
      have el := hrs r hr
      refine ⟨rfl, ?_⟩
      refine brT ?_
      refine l_iterL ?_
      refine lcL_map id _ ?_ (fun d' hd' M' A' m' => ?_) ?_
      · simp [rL]; have : szl = 16777216 := rfl; omega
      · obtain ⟨q, _, rfl⟩ := List.mem_map.mp hd'
        refine brT ?_
        exact ⟨rfl, rfl, rD q, q, rfl, ratOf_rD q, m'⟩
      · refine l_tupleL (ds := rL r.fs) (by rw [List.map_id]; rfl) ?_
        refine ⟨rfl, rfl, rD r.b, r.b, rfl, ratOf_rD r.b, ?_⟩
        refine l_tup rfl rfl ?_
        exact m
    · have e : List.map tOfD (rs.map rowD) = rs.map rowT := by rw [List.map_map]; rfl
      rw [e]
      refine ⟨T.cl_Problem, T.na_Problem_own_rows, by show 1 < 1000; decide, ?_⟩
      exact ⟨_, rfl, h⟩
/-! ### keeps -/
def seqOf (tp : Bool) (ds : List D) : D := if tp then .tup ds else .lst ds
/-- values that are none -/
inductive BadV (n : Nat) : D → Prop
  | non : BadV n .non
  | int (i : Int) : BadV n (.int i)
  | str (z : Str) : BadV n (.str z)
  | len (ds : List D) (h : ds.length ≠ n) : BadV n (.lst ds)
  | zero (qs : List Rat) (h : qs.length + 1 = n) (h2 : n ≤ 60) : BadV n (.lst (.int 0 :: rL qs))
def probD (K : PySem.W.Frag) (n : Nat) (rs : List Row) : D := .ins (CP K) [("own_size", .int (n : Int)), ("own_rows", .lst (rs.map rowT))]
def spKeeps (K : PySem.W.Frag) : SpD := fun args Q _ => ∃ (n : Nat) (rs : List Row) (v : D) (l : Bool), args = [.d (probD K n rs), .d v, .d (.bl l)] ∧
  ((BadV n v ∧ Q (.d (.bl false))) ∨ ∃ (tp : Bool) (vs : List Rat), v = seqOf tp (rL vs) ∧ vs.length = n ∧ n ≤ 30 ∧ (∀ r ∈ rs, rowOk n r) ∧ (∀ q ∈ vs, Nb 60 q) ∧ Q (.d (.bl (keepB rs vs l))))
abbrev n_Problem_keeps : List Str := ["self", "values", "loose", "factors", "bound", "strict", "got", "value"]
theorem sc_Problem_keeps : FnScope n_Problem_keeps ["self", "values", "loose"] (defScope s_Problem_keeps) := ⟨rfl, rfl, rfl, by decide +kernel, rfl, by decide +kernel, by decide +kernel⟩
theorem l_own {K : PySem.W.Frag} {f : Str} {C : Addr} {fs : List (Str × D)} {d : D} {Q : DV → Prop} (h1 : Cls K C) (h2 : NoAttr K C f) (h3 : fs.lookup f = some d) (q : Q (.d d)) : fldR K f (.d (.ins C fs)) Q := by
  unfold fldR
  show Cls K C ∧ NoAttr K C f ∧ (match fs.lookup f with | some d => Q (.d d) | none => False)
  rw [h3]
  exact ⟨h1, h2, q⟩
def goodD : D → D
  | .tup [.int a, .int b] => .bl (ratioD (.tup [.int a, .int b]) && decide (0 ≤ a))
  | _ => .bl false
theorem lk_size {K : PySem.W.Frag} {n : Nat} {rs : List Row} : List.lookup ("own_size" : Str) [(("own_size" : Str), D.int (n : Int)), ("own_rows", .lst (rs.map rowT))] = some (.int (n : Int)) := rfl
theorem lk_rows {K : PySem.W.Frag} {n : Nat} {rs : List Row} : List.lookup ("own_rows" : Str) [(("own_size" : Str), D.int (n : Int)), ("own_rows", .lst (rs.map rowT))] = some (.lst (rs.map rowT)) := rfl
theorem ok_Problem_keeps (T : Tx K mg a d) : FnG P w K mg base 4 (a i_Problem_keeps) (d i_Problem_keeps) ["self", "values", "loose"] (spKeeps K) := by
  have G_is_ratio : FnG P w K mg base 2 (a i_is_ratio) (d i_is_ratio) ["value"] spRatio := ok_is_ratio T
  have G_dot : FnG P w K mg base 3 (a i_dot) (d i_dot) ["one", "other"] (spDot true) := ok_dot T
  have G_below : FnG P w K mg base 1 (a i_below) (d i_below) ["one", "other"] (spRat2 fun p q => .d (.bl (decide (p < q)))) := ok_below T
  refine fnG_of T.F_Problem_keeps sc_Problem_keeps (fun args Q E h => ?_) (fun args Q E h => ?_) (fun cdv A outer s H E hr hg => (ds_cons (ds_if (DW.dt (dw_or (dt_not (dt_val (de_callB call_isiS sem_isiT (by rfl) T.n_isinstance (by decide +kernel) (da_cons (de_see (pv 1)) (da_cons (de_tup (da_cons (de_ty (T := "list") (by rfl) T.n_list (by decide +kernel)) (da_cons (de_ty (T := "tuple") (by rfl) T.n_tuple (by decide +kernel)) da_nil))) da_nil))))) (dw_or1 (dt_cmp (op_neAll hr.units) sem_ne (de_callB call_len sem_len (by rfl) T.n_len PySem.boot_len (da_cons (de_see (pv 1)) da_nil)) (de_fld (K := K) (de_see (pv 0))) (nomark _))))) (ds_one (ds_ret de_bl)) ds_nil)
      (ds_cons (ds_if (dt_not (dt_val (de_callB (cr_all rfl) sem_all (by rfl) T.n_all (by decide +kernel) (da_cons (de_lc (own := [("value", 7)]) rfl sc_Problem_keeps.nd (di_any (de_var (pv 1))) (blkOk_by (own := [("value", 7)]) (N := n_Problem_keeps) (sc := (defScope s_Problem_keeps)) (by decide +kernel)) (fun _ _ _ _ _ => (dg_name (i := 7) sc_Problem_keeps.nd rfl (Or.inl rfl))) (fun _ _ _ _ _ => dts_nil) (fun _ _ _ _ _ => (de_and (de_call G_is_ratio (hr.mono (by decide)) hg takes0 (B_is_ratio_1 T) (by rfl) T.m_is_ratio T.F_is_ratio.kp (da_cons (de_var (pv 7)) da_nil)) (de_one (de_cmp op_ge (sem_intR0 fun _ _ _ => .bl _) (de_ix ix_seq sem_ix (de_see (pv 7)) de_int (fun _ _ => rfl)) de_int (nomark _)))))) da_nil)))) (ds_one (ds_ret de_bl)) ds_nil)
      (ds_cons (ds_for (passes_of rfl) rfl (di_any (de_fld (K := K) (de_see (pv 0)))) (dg_tup (n := 3) (K := K) rfl (dgs_cons (dg_name (i := 3) sc_Problem_keeps.nd rfl (Or.inl rfl)) (dgs_cons (dg_name (i := 4) sc_Problem_keeps.nd rfl (Or.inl rfl)) (dgs_cons (dg_name (i := 5) sc_Problem_keeps.nd rfl (Or.inl rfl)) dgs_nil)))) (ds_cons (ds_set (i := 6) sc_Problem_keeps.nd rfl (Or.inl rfl) (de_call G_dot (hr.mono (by decide)) hg (takes_of rfl rfl rfl rfl) (B_dot_2 T) (by rfl) T.m_dot T.F_dot.kp (da_cons (de_var (pv 3)) (da_cons (de_var (pv 1)) da_nil))))
      (ds_one (ds_if (DW.dt (dw_or (dt_val (de_call G_below (hr.mono (by decide)) hg (takes_of rfl rfl rfl rfl) (B_below_2 T) (by rfl) T.m_below T.F_below.kp (da_cons (de_var (pv 4)) (da_cons (de_var (pv 6)) da_nil)))) (dw_or1 (DW.dt (dw_and (dt_val (de_see (pv 5))) (dw_and (dt_not (dt_val (de_see (pv 2)))) (dw_and1 (dt_cmp (op_eqAll hr.units) sem_eq (de_see (pv 6)) (de_see (pv 4)) (nomark _))))))))) (ds_one (ds_ret de_bl)) ds_nil))))
      (ds_one (ds_ret de_bl)))))) (fun args Q E h => ?_)
  · obtain ⟨_, _, _, _, rfl, _⟩ := h; rfl
  · obtain ⟨_, _, _, _, rfl, _⟩ := h
    intro i o; exact nseeD3
  · obtain ⟨n, rs, v, l, rfl, h⟩ := h
    rcases h with ⟨hb, h⟩ | ⟨tp, vs, rfl, hl, h30, hrs, hvs, h⟩
    · cases hb with
      | non => exact l_tup rfl rfl (l_isiT (d := .non) rfl rfl rfl ks_non (l_truB (brT (brT h))))
      | int i => exact l_tup rfl rfl (l_isiT (d := .int i) rfl rfl rfl ks_int (l_truB (brT (brT h))))
      | str z => exact l_tup rfl rfl (l_isiT (d := .str z) rfl rfl rfl ks_str (l_truB (brT (brT h))))
      | len ds hd =>
        refine l_tup rfl rfl (l_isiT (d := .lst ds) rfl rfl rfl ks_list (l_truB (brF ?_)))
        refine l_lenL (ds := ds) rfl ?_
        refine l_own T.cl_Problem T.na_Problem_own_size (lk_size (K := K)) ?_
        refine l_eqI ?_
        rw [decide_eq_false (show ¬ ((ds.length : Int) = (n : Int)) by omega)]
        exact brT h
      | zero qs hq h60 =>
        refine seq_cut (fun s => s = startD n_Problem_keeps [.d (probD K n rs), .d (.lst (.int 0 :: rL qs)), .d (.bl l)]) (fun N hN => ?_) (fun s hs => ?_)
        · refine l_tup rfl rfl (l_isiT (d := .lst (.int 0 :: rL qs)) rfl rfl rfl ks_list (l_truB (brF ?_)))
          refine l_lenL (ds := .int 0 :: rL qs) rfl ?_
          refine l_own T.cl_Problem T.na_Problem_own_size (lk_size (K := K)) ?_
          refine l_eqI ?_
          have : (((D.int 0 :: rL qs).length : Nat) : Int) = (n : Int) := by rw [List.length_cons]; simp [rL]; omega
          rw [decide_eq_true this]
          exact brF (hN _ rfl)
        · subst hs
          refine l_iterL ?_
          refine lcL_map goodD _ ?_ (fun d hd M A m => ?_) ?_
          · rw [List.length_cons]; simp [rL]; have : szl = 16777216 := rfl; omega
          · refine brT ?_
            rcases List.mem_cons.mp hd with rfl | hd
            · refine ⟨rfl, rfl, .int 0, rfl, rfl, trivial, ?_⟩
              exact brF m
            · obtain ⟨q, _, rfl⟩ := List.mem_map.mp hd
              refine ⟨rfl, rfl, rD q, rfl, rfl, pair_rD q, ?_⟩
              have e : goodD (rD q) = .bl (ratioD (rD q) && decide (0 ≤ q.num)) := rfl
              rw [e, ratioD_rD, Bool.true_and] at m
              rw [ratioD_rD]
              refine brT ?_
              refine l_ixT rfl ?_
              exact l_int0 m
          · refine l_all (bs := false :: qs.map fun q => (ratioD (rD q) && decide (0 ≤ q.num))) rfl ?_ ?_
            · show (bools ((rL qs).map goodD)).map (false :: ·) = _
              have : (rL qs).map goodD = qs.map fun q => D.bl (ratioD (rD q) && decide (0 ≤ q.num)) := by
                unfold rL; rw [List.map_map]; rfl
              rw [this, bools_map]; rfl
            · exact l_truB (brT h)
    · have it : ∀ P : List D → Prop, P (rL vs) → iterR (.d (seqOf tp (rL vs))) P := fun P q => by
        cases tp
        · exact l_iterL q
        · exact l_iterT q
      have ln : ∀ R : DV → Prop, R (.d (.int (n : Int))) → lenR [.d (seqOf tp (rL vs))] R := fun R q => by
        have e : (rL vs).length = n := by simpa [rL] using hl
        rw [← e] at q
        cases tp
        · exact l_lenL rfl q
        · exact l_lenT q
      have isi : ∀ R : DV → Prop, R (.d (.bl true)) → isiTR [.d (seqOf tp (rL vs)), .d (.tup [.raw (.ty "list"), .raw (.ty "tuple")])] R := fun R q => by
        cases tp
        · exact l_isiT (d := .lst (rL vs)) rfl rfl rfl ks_list q
        · exact l_isiT (d := .tup (rL vs)) rfl rfl rfl ks_tuple q
      generalize hV : seqOf tp (rL vs) = V at it ln isi
      refine seq_cut (fun s => s = startD n_Problem_keeps [.d (probD K n rs), .d V, .d (.bl l)]) (fun N hN => ?_) (fun s hs => ?_)
      · refine l_tup rfl rfl (isi _ (l_truB (brF ?_)))
        refine ln _ ?_
        refine l_own T.cl_Problem T.na_Problem_own_size (lk_size (K := K)) ?_
        refine l_eqI ?_
        rw [decide_eq_true rfl]
        exact brF (hN _ rfl)
      subst hs
      refine seq_cut (fun s => s = startD n_Problem_keeps [.d (probD K n rs), .d V, .d (.bl l)] ∧ (vs.all fun v => !decide (v.num < 0)) = true) (fun N hN => ?_) (fun s hs => ?_)
      · refine it _ ?_
        refine lcL_map goodD _ ?_ (fun d hd M A m => ?_) ?_
        · simp [rL]; have : szl = 16777216 := rfl; omega
        · refine brT ?_
          obtain ⟨q, _, rfl⟩ := List.mem_map.mp hd
          refine ⟨rfl, rfl, rD q, rfl, rfl, pair_rD q, ?_⟩
          have e : goodD (rD q) = .bl (ratioD (rD q) && decide (0 ≤ q.num)) := rfl
          rw [e, ratioD_rD, Bool.true_and] at m
          rw [ratioD_rD]
          refine brT ?_
          refine l_ixT rfl ?_
          exact l_int0 m
        · refine l_all (bs := vs.map fun q => (ratioD (rD q) && decide (0 ≤ q.num))) rfl ?_ ?_
          · have : (rL vs).map goodD = vs.map fun q => D.bl (ratioD (rD q) && decide (0 ≤ q.num)) := by
              unfold rL; rw [List.map_map]; rfl
            rw [this, bools_map]
          · have e : (vs.map fun q => (ratioD (rD q) && decide (0 ≤ q.num))).all id = vs.all fun v => !decide (v.num < 0) := by
              rw [List.all_map]
              congr 1
              funext q
              show (ratioD (rD q) && decide (0 ≤ q.num)) = _
              rw [ratioD_rD, Bool.true_and, Bool.eq_iff_iff]
              simp
            rw [e]
            refine l_truB ?_
            cases hn : (vs.all fun v => !decide (v.num < 0)) with
            | true => exact brF (hN _ ⟨rfl, hn⟩)
            | false =>
              have : keepB rs vs l = false := by unfold keepB; rw [hn, Bool.and_false]
              rw [this] at h
              exact brT h
      obtain ⟨rfl, hnn⟩ := hs
      refine seq_cut (fun s => rs.all (fun r => !rowBad vs l r) = true) (fun N hN => ?_) (fun s ha => ?_)
      · refine l_own T.cl_Problem T.na_Problem_own_rows (lk_rows (K := K)) ?_
        refine l_iterL ?_
        refine forL_ind (fun r s => ∃ (rs' : List Row) (x y z u : Option DV), r = rs'.map rowT ∧ s = [some (.d (probD K n rs)), some (.d V), some (.d (.bl l)), x, y, z, u, none] ∧ rs'.all (fun r => !rowBad vs l r) = rs.all (fun r => !rowBad vs l r) ∧ ∀ r ∈ rs', rowOk n r) ?_ ?_ _ _ ⟨rs, none, none, none, none, rfl, rfl, rfl, hrs⟩
        · rintro N' d r s hN' ⟨rs', x, y, z, u, e, rfl, ha, ho⟩
          rcases rs' with _ | ⟨r1, rs'⟩
          · cases e
          · cases e
            obtain ⟨o1, o2, o3⟩ := ho r1 (List.mem_cons_self ..)
            have nd : Nb 3900 (dotQ r1.fs vs) := (nb_dot o2 hvs).mono (by omega)
            refine ⟨rfl, ?_⟩
            refine ⟨rfl, rfl, r1.fs, vs, V, rfl, ?_, by omega, by omega, o2, hvs, ?_⟩
            · rw [← hV]
              cases tp
              · exact .inr rfl
              · exact .inl rfl
            have bad : rowBad vs l r1 = true → Q (.d (.bl false)) := fun hb => by
              have : keepB rs vs l = false := by
                unfold keepB
                rw [← ha, List.all_cons, hb]; rfl
              rw [this] at h; exact h
            have good : rowBad vs l r1 = false → N' [some (.d (probD K n rs)), some (.d V), some (.d (.bl l)), some (.d (.tup (rL r1.fs))), some (.d (rD r1.b)), some (.d (.bl r1.st)), some (.d (rD (dotQ r1.fs vs))), none] := fun hb =>
              hN' _ ⟨rs', _, _, _, _, rfl, rfl, by rw [← ha, List.all_cons, hb]; rfl, fun z hz => ho z (List.mem_cons_of_mem _ hz)⟩
            unfold rowBad at bad good
            refine ⟨rfl, rfl, r1.b, dotQ r1.fs vs, rfl, o3.mono (by decide), nd, ?_⟩
            refine l_truB ?_
            refine br (fun h1 => ?_) (fun h1 => ?_)
            · exact brT (bad (by rw [h1]; rfl))
            · rw [h1, Bool.false_or] at bad good
              refine l_truB ?_
              refine br (fun h2 => ?_) (fun h2 => ?_)
              · refine l_truB ?_
                cases l with
                | true => exact brF (brF (good (by rw [h2]; rfl)))
                | false =>
                  refine brT ?_
                  refine l_eqRat ?_
                  exact br (fun h3 => bad (by rw [h2]; exact h3)) (fun h3 => good (by rw [h2]; exact h3))
              · exact brF (good (by rw [h2]; rfl))
        · rintro s ⟨rs', x, y, z, u, e, rfl, ha, ho⟩
          rcases rs' with _ | ⟨r1, rs'⟩
          · exact hN _ (by rw [← ha]; rfl)
          · cases e
      · have : keepB rs vs l = true := by unfold keepB; rw [ha, hnn]; rfl
        rw [this] at h
        exact h
end
end K08

set_option Elab.async false
set_option linter.all false
set_option maxRecDepth 100000
set_option maxHeartbeats 4000000
namespace K08
open PySem PySem.Spec PyProof.Rows L2 DL
section
variable {P : Program} {w : World} {K : PySem.W.Frag} {mg : Str → Option Value} {base : Heap} {a : Nat → Addr} {d : Nat → FuncData}
/-! ### law -/
abbrev n_law : List Str := ["_law_script", "_law_src", "_law_turn", "_law_size", "_law_rows_here", "_law_values_z", "_law_made", "_law_due", "_law_odd", "_law_k"]
theorem sc_law : FnScope n_law ["_law_script"] (defScope s_law) := ⟨rfl, rfl, rfl, by decide +kernel, rfl, by decide +kernel, by decide +kernel⟩
theorem bi__law_source (T : Tx K mg a d) : Binds K (d i__law_source) ["_law_script"] [] := binds_of T.F__law_source fun _ _ _ _ _ _ us hl => match us, hl with | [_], _ => rfl
theorem cut_tail {α : Type} {x : α} {xs : List α} : cut (x :: xs) (some 1) none = xs := by
  unfold cut
  have e1 : HT.sIx (x :: xs).length 0 (some 1) = 1 := by
    unfold HT.sIx
    simp
  have e2 : HT.sIx (x :: xs).length (x :: xs).length none = (x :: xs).length := rfl
  rw [e1, e2, List.drop_one, List.tail_cons, List.length_cons, Nat.add_sub_cancel, List.take_length]
theorem at_zero {α : Type} {x : α} {xs : List α} : atI (x :: xs) 0 = some x := by
  unfold atI ixN
  rw [if_pos (by decide), if_pos (by rw [List.length_cons]; omega)]
  rfl
theorem shows2 (b1 b2 : Bool) : Shows (.lst [.bl b1, .bl b2]) (.list [.bool b1, .bool b2]) :=
  (Shw.lst (m := 2) (.cons (.bl b1) (.cons (.bl b2) .nil)) (Nat.le_refl _)).shows (.inl ⟨_, rfl⟩) (by decide) (by decide)
def rowP (r : Row) : PyData := .tuple [.list (r.fs.map prP), prP r.b, .bool r.st]
theorem py_rowD (r : Row) : D.py (rowD r) = some (rowP r) := by
  show (D.pyAll [.lst (rL r.fs), rD r.b, .bl r.st]).map PyData.tuple = _
  have e : D.py (.lst (rL r.fs)) = some (.list (r.fs.map prP)) := by unfold D.py; rw [py_rL]; rfl
  have e3 : D.pyAll [.lst (rL r.fs), rD r.b, .bl r.st] = some [.list (r.fs.map prP), prP r.b, .bool r.st] := by
    unfold D.pyAll
    rw [e]
    rfl
  rw [e3]; rfl
theorem py_rows : ∀ rs : List Row, D.pyAll (rs.map rowD) = some (rs.map rowP)
  | [] => by simp [D.pyAll]
  | r :: rs => by rw [List.map_cons]; unfold D.pyAll; rw [py_rowD, py_rows rs]; rfl
theorem lay_rows : ∀ rs : List Row, PyData.canLayAll0 (rs.map rowP) = true ∧ PyData.depthAll (rs.map rowP) ≤ 5
  | [] => ⟨by simp [PyData.canLayAll0], by simp [PyData.depthAll]⟩
  | r :: rs => by
    obtain ⟨h1, h2⟩ := lay_rows rs
    obtain ⟨h3, h4⟩ := lay_rL r.fs
    refine ⟨?_, ?_⟩
    · rw [List.map_cons]; unfold PyData.canLayAll0; rw [h1]; simp [rowP, prP, PyData.canLay0, PyData.canLayAll0]; exact h3
    · rw [List.map_cons]; unfold PyData.depthAll
      refine Nat.max_le.mpr ⟨?_, h2⟩
      simp [rowP, prP, PyData.depth, PyData.depthAll]
      exact Nat.le_trans h4 (by decide)
theorem l_neNil {rs : List Row} {v : DV} {Q : DV → Prop} (hv : v.dat = some (.lst (rs.map rowD))) (h : Q (.d (.bl (!rs.isEmpty)))) : eqR true v (.own (.lst [])) Q := by
  obtain ⟨h1, h2⟩ := lay_rows rs
  refine l_eqD (p := .list (rs.map rowP)) (p' := .list []) hv rfl (by unfold D.py; rw [py_rows]; rfl) rfl ?_ (by decide +kernel) (.inl ⟨_, rfl⟩) ?_
  · simp only [SeqAt.shaped, PyData.canLay0, h1, PyData.depth, Bool.true_and]
    exact decide_eq_true (by omega)
  · rw [eqv_nil, List.isEmpty_map]; exact h
theorem ok_law (T : Tx K mg a d) : FnR P w K mg base 7 (a i_law) (d i_law) ["_law_script"] (spLaw K) := by
  have G__law_draw : FnG P w K mg base 1 (a i__law_draw) (d i__law_draw) ["_law_src", "_law_many"] spDraw := ok__law_draw T
  have G__law_of : FnG P w K mg base 2 (a i__law_of) (d i__law_of) ["_law_src", "_law_some"] spOf := ok__law_of T
  have G__law_same : FnG P w K mg base 1 (a i__law_same) (d i__law_same) ["_law_found", "_law_due"] spSame := ok__law_same T
  have G__law_length : FnG P w K mg base 2 (a i__law_length) (d i__law_length) ["_law_src"] spLen := ok__law_length T
  have G__law_rows : FnG P w K mg base 3 (a i__law_rows) (d i__law_rows) ["_law_src", "_law_size", "_law_many"] spRows := ok__law_rows T
  have G__law_dot : FnG P w K mg base 4 (a i__law_dot) (d i__law_dot) ["_law_one", "_law_other"] spLDot := ok__law_dot T
  have G__law_minus : FnG P w K mg base 1 (a i__law_minus) (d i__law_minus) ["_law_one"] spMinus := ok__law_minus T
  have G__law_keeps : FnG P w K mg base 5 (a i__law_keeps) (d i__law_keeps) ["_law_rows_here", "_law_values_z", "_law_loose_z"] spLKeeps := ok__law_keeps T
  have G_Problem___init__ : FnR P w K mg base 5 (a i_Problem___init__) (d i_Problem___init__) ["self", "size", "rows"] (upIn K (CP K) spInit) := ok_Problem___init__ T
  have G_Problem_keeps : FnG P w K mg base 4 (a i_Problem_keeps) (d i_Problem_keeps) ["self", "values", "loose"] (spKeeps K) := ok_Problem_keeps T
  refine fnR_of T.F_law sc_law (fun vs H Q E h => ?_) (fun cdv A outer s H vs Q E hr hg h => ?_)
  · obtain ⟨c, ns, rfl, _⟩ := h; rfl
  · obtain ⟨c, ns, rfl, hS, hlen, q⟩ := h
    refine ⟨_, pss_cons (ps_set (i := 1) sc_law.nd rfl (Or.inr rfl) (pe_callR (ok__law_source T) (hr.mono (by decide)) hg (by rfl) T.m__law_source T.F__law_source.kp (bi__law_source T) (pa_cons (pv 0) pa_nil)))
      (up_ss (fun cls d _ H => E cls d H) (ds_cons (ds_for (passes_of rfl) rfl (di_rng1 (by rfl) T.n_range (da_cons de_int da_nil)) (dg_name (i := 2) sc_law.nd rfl (Or.inl rfl)) (ds_cons (ds_set (i := 3) sc_law.nd rfl (Or.inl rfl) (de_call G__law_draw (hr.mono (by decide)) hg (takes_of rfl rfl rfl rfl) (B__law_draw_2 T) (by rfl) T.m__law_draw T.F__law_draw.kp (da_cons (de_var (pv 1)) (da_cons de_int da_nil))))
      (ds_cons (ds_par (i := 4) (j := 5) rfl sc_law.nd rfl rfl (by decide) rfl rfl (da_cons (de_call G__law_rows (hr.mono (by decide)) hg (takes_of rfl rfl rfl rfl) (B__law_rows_3 T) (by rfl) T.m__law_rows T.F__law_rows.kp (da_cons (de_var (pv 1)) (da_cons (de_var (pv 3)) (da_cons (de_call G__law_draw (hr.mono (by decide)) hg (takes_of rfl rfl rfl rfl) (B__law_draw_2 T) (by rfl) T.m__law_draw T.F__law_draw.kp (da_cons (de_var (pv 1)) (da_cons de_int da_nil))) da_nil)))) (da_cons (de_lc (own := [("_law_k", 9)]) rfl sc_law.nd (di_rng1 (by rfl) T.n_range (da_cons (de_var (pv 3)) da_nil)) (blkOk_by (own := [("_law_k", 9)]) (N := n_law) (sc := (defScope s_law)) (by decide +kernel)) (fun _ _ _ _ _ => (dg_name (i := 9) sc_law.nd rfl (Or.inl rfl))) (fun _ _ _ _ _ => dts_nil) (fun _ _ _ _ _ => (de_call G__law_length (hr.mono (by decide)) hg takes0 (B__law_length_1 T) (by rfl) T.m__law_length T.F__law_length.kp (da_cons (de_var (pv 1)) da_nil)))) da_nil)) (by rfl))
      (ds_cons (ds_if (DW.dt (dw_and (dt_cmp (op_neAll hr.units) sem_ne (de_see (pv 4)) (de_lst da_nil) (nomark _)) (dw_and1 (dt_cmp (op_eqAll hr.units) sem_eq (de_call G__law_draw (hr.mono (by decide)) hg (takes_of rfl rfl rfl rfl) (B__law_draw_2 T) (by rfl) T.m__law_draw T.F__law_draw.kp (da_cons (de_var (pv 1)) (da_cons de_int da_nil))) de_int (nomark _))))) (ds_one (ds_set (i := 4) sc_law.nd rfl (Or.inl rfl) (de_add (de_sl (de_see (pv 4)) (do_some de_int) do_none) (de_lst (da_cons (de_tup (da_cons (de_ix ix_seq sem_ix (de_ix ix_seq sem_ix (de_see (pv 4)) de_int (fun _ _ => rfl)) de_int (fun _ _ => rfl)) (da_cons (de_call G__law_dot (hr.mono (by decide)) hg (takes_of rfl rfl rfl rfl) (B__law_dot_2 T) (by rfl) T.m__law_dot T.F__law_dot.kp (da_cons (de_ix ix_seq sem_ix (de_ix ix_seq sem_ix (de_see (pv 4)) de_int (fun _ _ => rfl)) de_int (fun _ _ => rfl)) (da_cons (de_var (pv 5)) da_nil))) (da_cons (de_ix ix_seq sem_ix (de_ix ix_seq sem_ix (de_see (pv 4)) de_int (fun _ _ => rfl)) de_int (fun _ _ => rfl)) da_nil)))) da_nil))))) ds_nil)
      (ds_cons (ds_if (DW.dt (dw_and (dt_cmp op_gt (sem_intR0 fun _ _ _ => .bl _) (de_see (pv 3)) de_int (nomark _)) (dw_and1 (dt_cmp (op_eqAll hr.units) sem_eq (de_call G__law_draw (hr.mono (by decide)) hg (takes_of rfl rfl rfl rfl) (B__law_draw_2 T) (by rfl) T.m__law_draw T.F__law_draw.kp (da_cons (de_var (pv 1)) (da_cons de_int da_nil))) de_int (nomark _))))) (ds_one (ds_set (i := 5) sc_law.nd rfl (Or.inl rfl) (de_add (de_lst (da_cons (de_call G__law_minus (hr.mono (by decide)) hg (takes_of rfl rfl rfl rfl) (B__law_minus_1 T) (by rfl) T.m__law_minus T.F__law_minus.kp (da_cons (de_ix ix_seq sem_ix (de_see (pv 5)) de_int (fun _ _ => rfl)) da_nil)) da_nil)) (de_sl (de_see (pv 5)) (do_some de_int) do_none)))) ds_nil)
      (ds_cons (ds_par (i := 6) (j := 7) rfl sc_law.nd rfl rfl (by decide) rfl rfl (da_cons (de_make T.mk_Problem G_Problem___init__ (hr.mono (by decide)) hg (takes_of rfl rfl rfl rfl) (B_Problem___init___3 T) rfl (by rfl) T.m_Problem (da_cons (de_var (pv 3)) (da_cons (de_var (pv 4)) da_nil))) (da_cons (de_lst (da_cons (de_call G__law_keeps (hr.mono (by decide)) hg (takes_of rfl rfl rfl rfl) (B__law_keeps_3 T) (by rfl) T.m__law_keeps T.F__law_keeps.kp (da_cons (de_var (pv 4)) (da_cons (de_var (pv 5)) (da_cons de_bl da_nil)))) (da_cons (de_call G__law_keeps (hr.mono (by decide)) hg (takes_of rfl rfl rfl rfl) (B__law_keeps_3 T) (by rfl) T.m__law_keeps T.F__law_keeps.kp (da_cons (de_var (pv 4)) (da_cons (de_var (pv 5)) (da_cons de_bl da_nil)))) da_nil))) da_nil)) (by rfl))
      (ds_cons (ds_if (dt_not (dt_val (de_call G__law_same (hr.mono (by decide)) hg (takes_of rfl rfl rfl rfl) (B__law_same_2 T) (by rfl) T.m__law_same T.F__law_same.kp (da_cons (de_lst (da_cons (de_meth (de_var (pv 6)) T.cl_Problem T.me_Problem_keeps G_Problem_keeps (hr.mono (by decide)) hg (takes_of rfl rfl rfl rfl) (B_Problem_keeps_2 T) (da_cons (de_var (pv 5)) da_nil)) (da_cons (de_methK0 (de_var (pv 6)) T.cl_Problem T.me_Problem_keeps G_Problem_keeps (hr.mono (by decide)) hg (takes_of rfl rfl rfl rfl) (B_Problem_keeps_1_loose_values T) (dk_cons de_bl (dk_cons (de_callT call_tuple_of sem_tuple (by rfl) T.n_tuple (by decide +kernel) (da_cons (de_see (pv 5)) da_nil)) dk_nil))) da_nil))) (da_cons (de_var (pv 7)) da_nil))))) (ds_one (ds_ret de_bl)) ds_nil)
      (ds_cons (ds_set (i := 8) sc_law.nd rfl (Or.inl rfl) (de_call G__law_of (hr.mono (by decide)) hg (takes_of rfl rfl rfl rfl) (B__law_of_2 T) (by rfl) T.m__law_of T.F__law_of.kp (da_cons (de_var (pv 1)) (da_cons (de_lst (da_cons de_non (da_cons de_int (da_cons de_str (da_cons (de_add (de_see (pv 5)) (de_lst (da_cons (de_tup (da_cons de_int (da_cons de_int da_nil))) da_nil))) (da_cons (de_ifE (dt_cmp op_gt (sem_intR0 fun _ _ _ => .bl _) (de_see (pv 3)) de_int (nomark _)) (de_sl (de_see (pv 5)) (do_some de_int) do_none) (de_lst (da_cons (de_tup (da_cons de_int (da_cons de_int da_nil))) da_nil))) (da_cons (de_ifE (dt_cmp op_gt (sem_intR0 fun _ _ _ => .bl _) (de_see (pv 3)) de_int (nomark _)) (de_add (de_lst (da_cons de_int da_nil)) (de_sl (de_see (pv 5)) (do_some de_int) do_none)) de_non) (da_cons (de_mul (de_lst (da_cons (de_tup (da_cons de_int (da_cons de_int da_nil))) da_nil)) (de_add (de_see (pv 3)) de_int)) da_nil)))))))) da_nil))))
      (ds_one (ds_if (DW.dt (dw_or (dt_cmp op_isnot_bl sem_isnotB (de_meth (de_var (pv 6)) T.cl_Problem T.me_Problem_keeps G_Problem_keeps (hr.mono (by decide)) hg (takes_of rfl rfl rfl rfl) (B_Problem_keeps_2 T) (da_cons (de_var (pv 8)) da_nil)) de_bl (nomark _)) (dw_or1 (dt_cmp op_isnot_bl sem_isnotB (de_methK (de_var (pv 6)) T.cl_Problem T.me_Problem_keeps G_Problem_keeps (hr.mono (by decide)) hg (takes_of rfl rfl rfl rfl) (B_Problem_keeps_2_loose T) (da_cons (de_var (pv 8)) da_nil) (dk_cons de_bl dk_nil)) de_bl (nomark _))))) (ds_one (ds_ret de_bl)) ds_nil))))))))))
      (ds_one (ds_ret de_bl)))), ?_⟩
    refine ⟨.ref c, rfl, c, ns, rfl, hS, hlen, fun H' p c' ms sd ex cp hp hc hm h0 h1 => ?_⟩
    refine law_up 10 1 rfl rfl q cp hp hc hm h0 h1 ?_
    refine seq_cut (fun s => True) (fun N' hN' => ?_) (fun s hs => rfl)
    refine l_rng1 (by decide) (by decide) ?_
    refine forL_inv (fun s => ∃ a2 a3 a4 a5 a6 a7 a8, s = [none, some .src, a2, a3, a4, a5, a6, a7, a8, none]) _ _ ⟨_, _, _, _, _, _, _, rfl⟩ (fun N d s hN hd hs => ?_) (fun s _ => hN' s trivial)
    obtain ⟨a2, a3, a4, a5, a6, a7, a8, rfl⟩ := hs
    refine set_cutP (fun x => ∃ n : Nat, n ≤ 4 ∧ x = .int (n : Int)) (fun Q hQ => ⟨rfl, rfl, _, rfl, by decide, by decide, fun m h0 h1 => hQ _ ⟨m.toNat, by omega, by rw [Int.toNat_of_nonneg h0]⟩⟩) (fun x hx => ?_)
    obtain ⟨n, hn, rfl⟩ := hx
    refine par_cutP (s' := [none, some .src, some (.d d), some (.d (.int (n : Int))), a4, a5, a6, a7, a8, none]) (fun x y => ∃ (rs : List Row) (vs : List Rat), x = .lst (rs.map rowD) ∧ y = .lst (rL vs) ∧ rs.length ≤ 5 ∧ vs.length = n ∧ (∀ r ∈ rs, rowOk n r) ∧ (∀ v ∈ vs, Nb 40 v)) (fun Q hQ => ?_) (fun x y hxy => ?_)
    · refine ⟨rfl, rfl, _, rfl, by decide, by decide, fun m h0 h1 => ?_⟩
      refine ⟨rfl, rfl, n, m.toNat, by rw [Int.toNat_of_nonneg h0]; rfl, by omega, by omega, fun rs hl hrs => ?_⟩
      refine l_rng1 (by omega) (by omega) ?_
      rw [Int.toNat_natCast]
      refine lcL_rel (fun x => ∃ q, Nb 40 q ∧ x = rD q) _ ?_ (fun d' hd' M' A' mm' => ?_) (fun ys hl' hR' => ?_)
      · rw [intsFrom_len]; have : szl = 16777216 := rfl; omega
      · refine brT ?_
        exact ⟨rfl, rfl, rfl, fun q hq _ => mm' _ ⟨q, hq, rfl⟩⟩
      · obtain ⟨vs, rfl, hvs⟩ := rat_ex hR'
        rw [intsFrom_len] at hl'
        exact hQ _ _ ⟨rs, vs, rfl, rfl, by omega, by simpa [rL] using hl', hrs, hvs⟩
    obtain ⟨rs, vs, rfl, rfl, hrl, hvl, hrs, hvs⟩ := hxy
    have hn30 : n ≤ 30 := by omega
    have v60 : ∀ v ∈ vs, Nb 60 v := fun v h => (hvs v h).mono (by decide)
    refine seq_cut (fun s => ∃ (rs' : List Row) (R : DV), (R = .d (.lst (rs'.map rowD)) ∨ R = .own (.lst (rs'.map rowD))) ∧ s = [none, some .src, some (.d d), some (.d (.int (n : Int))), some R, some (.d (.lst (rL vs))), a6, a7, a8, none] ∧ rs'.length ≤ 5 ∧ ∀ r ∈ rs', rowOk n r) (fun N2 hN2 => ?_) (fun s hs => ?_)
    · have same : N2 [none, some .src, some (.d d), some (.d (.int (n : Int))), some (.d (.lst (rs.map rowD))), some (.d (.lst (rL vs))), a6, a7, a8, none] := hN2 _ ⟨rs, _, .inl rfl, rfl, hrl, hrs⟩
      refine l_lst rfl rfl ?_
      refine l_neNil rfl ?_
      rcases rs with _ | ⟨r1, rs1⟩
      · exact brF (brF same)
      · refine brT ?_
        refine ⟨rfl, rfl, _, rfl, by decide, by decide, fun m h0 h1 => ?_⟩
        refine l_eqI ?_
        refine br (fun _ => ?_) (fun _ => same)
        obtain ⟨o1, o2, o3⟩ := hrs r1 (List.mem_cons_self ..)
        refine l_slL rfl ?_
        refine l_ixL rfl at_zero ?_
        refine l_ixT rfl ?_
        refine l_ixL rfl at_zero ?_
        refine l_ixT rfl ?_
        refine ⟨rfl, rfl, r1.fs, vs, rfl, by omega, by omega, o2, v60, ?_⟩
        refine l_ixL rfl at_zero ?_
        refine l_ixT rfl ?_
        refine l_tup rfl rfl ?_
        refine l_lst rfl rfl ?_
        rw [List.map_cons, cut_tail]
        refine l_addL rfl rfl ?_ ?_
        · rw [List.length_map]
          have : szl = 16777216 := rfl
          rw [List.length_cons] at hrl
          show rs1.length + 1 ≤ szl
          omega
        · refine hN2 _ ⟨rs1 ++ [⟨r1.fs, dotQ r1.fs vs, r1.st⟩], _, .inr rfl, by rw [List.map_append]; rfl, by simpa using hrl, fun r hr => ?_⟩
          rcases List.mem_append.mp hr with h | h
          · exact hrs r (List.mem_cons_of_mem _ h)
          · rw [List.mem_singleton.mp h]
            exact ⟨o1, o2, (nb_dot o2 v60).mono (by omega)⟩
    obtain ⟨rs', R, hR, rfl, hrl', hrs'⟩ := hs
    refine seq_cut (fun s => ∃ (ws : List Rat) (V : DV), (V = .d (.lst (rL ws)) ∨ V = .own (.lst (rL ws))) ∧ s = [none, some .src, some (.d d), some (.d (.int (n : Int))), some R, some V, a6, a7, a8, none] ∧ ws.length = n ∧ ∀ v ∈ ws, Nb 40 v) (fun N2 hN2 => ?_) (fun s hs => ?_)
    · have same : N2 [none, some .src, some (.d d), some (.d (.int (n : Int))), some R, some (.d (.lst (rL vs))), a6, a7, a8, none] := hN2 _ ⟨vs, _, .inl rfl, rfl, hvl, hvs⟩
      refine l_int0 ?_
      refine br (fun hp => ?_) (fun _ => brF same)
      have hp' : (0 : Int) < (n : Int) := of_decide_eq_true hp
      refine ⟨rfl, rfl, _, rfl, by decide, by decide, fun m h0 h1 => ?_⟩
      refine l_eqI ?_
      refine br (fun _ => ?_) (fun _ => same)
      rcases vs with _ | ⟨v1, vs1⟩
      · exfalso; simp at hvl; omega
      · refine l_ixL rfl at_zero ?_
        refine ⟨rfl, rfl, v1, rfl, ?_⟩
        refine l_lst rfl rfl ?_
        refine l_slL rfl ?_
        show addR _ (.own (.lst (cut (rD v1 :: rL vs1) (some 1) none))) _
        rw [cut_tail]
        refine l_addL rfl rfl ?_ ?_
        · have : szl = 16777216 := rfl
          have e : (rL vs1).length = vs1.length := by simp [rL]
          rw [e]
          show 1 + vs1.length ≤ szl
          rw [List.length_cons] at hvl
          omega
        · refine hN2 _ ⟨(-v1) :: vs1, _, .inr rfl, rfl, by simpa using hvl, fun v hv => ?_⟩
          rcases List.mem_cons.mp hv with h | h
          · rw [h]
            have := hvs v1 (List.mem_cons_self ..)
            exact ⟨by rw [Rat.neg_num, Int.natAbs_neg]; exact this.n, by rw [Rat.neg_den]; exact this.d⟩
          · exact hvs v (List.mem_cons_of_mem _ h)
    obtain ⟨ws, V, hV, rfl, hwl, hws⟩ := hs
    have w60 : ∀ v ∈ ws, Nb 60 v := fun v h => (hws v h).mono (by decide)
    refine par_cut (s' := [none, some .src, some (.d d), some (.d (.int (n : Int))), some (.d (.lst (rs'.map rowD))), some (.d (.lst (rL ws))), a6, a7, a8, none]) (probD K n rs') (.lst [.bl (keepB rs' ws false), .bl (keepB rs' ws true)]) (fun Q hQ => ?_) ?_
    · have hk : ∀ r ∈ rs', rowOk ws.length r := fun r h => by rw [hwl]; exact hrs' r h
      rcases hR with rfl | rfl <;> rcases hV with rfl | rfl
      all_goals
        refine ⟨rfl, rfl, n, rs', rfl, by omega, by omega, fun r hr => (hrs' r hr).1, ?_⟩
        refine ⟨rfl, rfl, rs', ws, false, rfl, by omega, hk, w60, ?_⟩
        refine ⟨rfl, rfl, rs', ws, true, rfl, by omega, hk, w60, ?_⟩
        refine l_lst rfl rfl ?_
        exact hQ
    refine seq_cut (fun s => s = [none, some .src, some (.d d), some (.d (.int (n : Int))), some (.d (.lst (rs'.map rowD))), some (.d (.lst (rL ws))), some (.d (probD K n rs')), some (.d (.lst [.bl (keepB rs' ws false), .bl (keepB rs' ws true)])), a8, none]) (fun N2 hN2 => ?_) (fun s hs => ?_)
    · refine ⟨rfl, rfl, rfl, rfl, n, rs', .lst (rL ws), false, rfl, .inr ⟨false, ws, rfl, hwl, hn30, hrs', w60, ?_⟩⟩
      refine ⟨rfl, rfl, ?_⟩
      refine l_tupleL (ds := rL ws) rfl ?_
      refine ⟨rfl, rfl, n, rs', .tup (rL ws), true, rfl, .inr ⟨true, ws, rfl, hwl, hn30, hrs', w60, ?_⟩⟩
      refine l_lst rfl rfl ?_
      refine ⟨rfl, rfl, ?_⟩
      refine same_eq (shows2 _ _) rfl ?_
      refine l_truB ?_
      exact brF (hN2 _ rfl)
    subst hs
    refine set_cutP (fun x => BadV n x) (fun Q hQ => ?_) (fun x hx => ?_)
    · refine l_tup rfl rfl ?_
      refine l_lst rfl rfl ?_
      have szz : szl = 16777216 := rfl
      have el : (rL ws).length = n := by simpa [rL] using hwl
      refine l_addL (ds := rL ws) rfl rfl (by rw [el]; show n + 1 ≤ szl; omega) ?_
      have fin : ∀ (x1 x2 : D), BadV n x1 → BadV n x2 → ∀ (x : D), x ∈ [D.non, .int 3, .str "ab", .lst (rL ws ++ [rt 0 1]), x1, x2, .lst (List.replicate (n + 1) [rt 2 2]).flatten] → Q (.d x) [none, some .src, some (.d d), some (.d (.int (n : Int))), some (.d (.lst (rs'.map rowD))), some (.d (.lst (rL ws))), some (.d (probD K n rs')), some (.d (.lst [.bl (keepB rs' ws false), .bl (keepB rs' ws true)])), a8, none] := by
        intro x1 x2 b1 b2 x hx
        refine hQ x ?_
        simp only [List.mem_cons, List.not_mem_nil, or_false] at hx
        rcases hx with rfl | rfl | rfl | rfl | rfl | rfl | rfl
        · exact .non
        · exact .int 3
        · exact .str _
        · exact .len _ (by rw [List.length_append, el]; show n + 1 ≠ n; omega)
        · exact b1
        · exact b2
        · refine .len _ ?_
          have : (List.replicate (n + 1) [rt 2 2]).flatten.length = n + 1 := by simp
          rw [this]; omega
      have last : ∀ (R : DV → Prop), R (.own (.lst (List.replicate (n + 1) [rt 2 2]).flatten)) → mulR (.own (.lst [rt 2 2])) (.d (.int ((n : Int) + 1))) R := fun R r => by
        refine l_mulL rfl (by omega) (by omega) ?_ ?_
        · show 1 * ((n : Int) + 1).toNat ≤ szl; omega
        · have e : ((n : Int) + 1).toNat = n + 1 := by omega
          rw [e]; exact r
      refine l_int0 ?_
      refine br (fun hp => ?_) (fun hp => ?_)
      · have hp' : (0 : Int) < (n : Int) := of_decide_eq_true hp
        rcases ws with _ | ⟨w1, ws1⟩
        · exfalso; simp at hwl; omega
        · have hw1 : ws1.length + 1 = n := by simpa using hwl
          have ct : cut (rL (w1 :: ws1)) (some 1) none = rL ws1 := cut_tail
          refine l_slL rfl ?_
          rw [ct]
          refine l_int0 ?_
          rw [hp]
          refine brT ?_
          refine l_lst rfl rfl ?_
          refine l_slL rfl ?_
          rw [ct]
          refine l_addL rfl rfl ?_ ?_
          · show 1 + (rL ws1).length ≤ szl
            simp [rL]; omega
          refine l_tup rfl rfl ?_
          refine l_lst rfl rfl ?_
          refine l_addI ?_
          refine last _ ?_
          refine l_lst rfl rfl ?_
          refine ⟨rfl, rfl, _, rfl, (fun o z => by cases z), by show 0 < 7; decide, by show 7 ≤ szl; decide, ?_⟩
          exact fin _ _ (.len _ (by simp [rL]; omega)) (.zero ws1 hw1 (by omega))
      · refine l_tup rfl rfl ?_
        refine l_lst rfl rfl ?_
        refine l_int0 ?_
        rw [hp]
        refine brF ?_
        refine l_tup rfl rfl ?_
        refine l_lst rfl rfl ?_
        refine l_addI ?_
        refine last _ ?_
        refine l_lst rfl rfl ?_
        have hp' : ¬ (0 : Int) < (n : Int) := of_decide_eq_false hp
        refine ⟨rfl, rfl, _, rfl, (fun o z => by cases z), by show 0 < 7; decide, by show 7 ≤ szl; decide, ?_⟩
        exact fin _ _ (.len _ (by show 1 ≠ n; omega)) .non
    · refine ⟨rfl, rfl, rfl, rfl, n, rs', x, false, rfl, .inl ⟨hx, ?_⟩⟩
      refine l_isB (brF ?_)
      refine ⟨rfl, rfl, rfl, rfl, n, rs', x, true, rfl, .inl ⟨hx, ?_⟩⟩
      refine l_isB (brF ?_)
      exact hN _ ⟨_, _, _, _, _, _, _, rfl⟩
end
end K08

set_option Elab.async false
set_option linter.all false
set_option maxRecDepth 100000
set_option maxHeartbeats 4000000
namespace K08
open PySem PySem.Spec PyProof.Rows L2 DL
section
variable {P : Program} {w : World} {K : PySem.W.Frag} {mg : Str → Option Value} {base : Heap} {a : Nat → Addr} {d : Nat → FuncData}
def df0 : He.DefD := ⟨("is_whole", none), "is_whole", "is_whole", defArgs s_is_whole, defBody s_is_whole, defScope s_is_whole, [], []⟩
def df1 : He.DefD := ⟨("is_number", none), "is_number", "is_number", defArgs s_is_number, defBody s_is_number, defScope s_is_number, [], []⟩
def df2 : He.DefD := ⟨("is_ratio", none), "is_ratio", "is_ratio", defArgs s_is_ratio, defBody s_is_ratio, defScope s_is_ratio, [], []⟩
def df3 : He.DefD := ⟨("is_valued", none), "is_valued", "is_valued", defArgs s_is_valued, defBody s_is_valued, defScope s_is_valued, [], []⟩
def df4 : He.DefD := ⟨("lowest", none), "lowest", "lowest", defArgs s_lowest, defBody s_lowest, defScope s_lowest, [], []⟩
def df5 : He.DefD := ⟨("ratio_of", none), "ratio_of", "ratio_of", defArgs s_ratio_of, defBody s_ratio_of, defScope s_ratio_of, [], []⟩
def df6 : He.DefD := ⟨("plus", none), "plus", "plus", defArgs s_plus, defBody s_plus, defScope s_plus, [], []⟩
def df7 : He.DefD := ⟨("times", none), "times", "times", defArgs s_times, defBody s_times, defScope s_times, [], []⟩
def df8 : He.DefD := ⟨("below", none), "below", "below", defArgs s_below, defBody s_below, defScope s_below, [], []⟩
def df9 : He.DefD := ⟨("dot", none), "dot", "dot", defArgs s_dot, defBody s_dot, defScope s_dot, [], []⟩
def df10 : He.DefD := ⟨("is_row", none), "is_row", "is_row", defArgs s_is_row, defBody s_is_row, defScope s_is_row, [], []⟩
def df11 : He.DefD := ⟨("Problem", some "__init__"), "__init__", "Problem.__init__", defArgs s_Problem___init__, defBody s_Problem___init__, defScope s_Problem___init__, [.adr (He.dflAt ("Problem", some "__init__") 0)], []⟩
def df12 : He.DefD := ⟨("Problem", some "keeps"), "keeps", "Problem.keeps", defArgs s_Problem_keeps, defBody s_Problem_keeps, defScope s_Problem_keeps, [], [("loose", .bl false)]⟩
def df13 : He.DefD := ⟨("_law_source", none), "_law_source", "_law_source", defArgs s__law_source, defBody s__law_source, defScope s__law_source, [], []⟩
def df14 : He.DefD := ⟨("_law_draw", none), "_law_draw", "_law_draw", defArgs s__law_draw, defBody s__law_draw, defScope s__law_draw, [], []⟩
def df15 : He.DefD := ⟨("_law_of", none), "_law_of", "_law_of", defArgs s__law_of, defBody s__law_of, defScope s__law_of, [], []⟩
def df16 : He.DefD := ⟨("_law_same", none), "_law_same", "_law_same", defArgs s__law_same, defBody s__law_same, defScope s__law_same, [], []⟩
def df17 : He.DefD := ⟨("_law_low", none), "_law_low", "_law_low", defArgs s__law_low, defBody s__law_low, defScope s__law_low, [], []⟩
def df18 : He.DefD := ⟨("_law_plus", none), "_law_plus", "_law_plus", defArgs s__law_plus, defBody s__law_plus, defScope s__law_plus, [], []⟩
def df19 : He.DefD := ⟨("_law_times", none), "_law_times", "_law_times", defArgs s__law_times, defBody s__law_times, defScope s__law_times, [], []⟩
def df20 : He.DefD := ⟨("_law_minus", none), "_law_minus", "_law_minus", defArgs s__law_minus, defBody s__law_minus, defScope s__law_minus, [], []⟩
def df21 : He.DefD := ⟨("_law_less", none), "_law_less", "_law_less", defArgs s__law_less, defBody s__law_less, defScope s__law_less, [], []⟩
def df22 : He.DefD := ⟨("_law_total", none), "_law_total", "_law_total", defArgs s__law_total, defBody s__law_total, defScope s__law_total, [], []⟩
def df23 : He.DefD := ⟨("_law_dot", none), "_law_dot", "_law_dot", defArgs s__law_dot, defBody s__law_dot, defScope s__law_dot, [], []⟩
def df24 : He.DefD := ⟨("_law_length", none), "_law_length", "_law_length", defArgs s__law_length, defBody s__law_length, defScope s__law_length, [], []⟩
def df25 : He.DefD := ⟨("_law_gain", none), "_law_gain", "_law_gain", defArgs s__law_gain, defBody s__law_gain, defScope s__law_gain, [], []⟩
def df26 : He.DefD := ⟨("_law_rows", none), "_law_rows", "_law_rows", defArgs s__law_rows, defBody s__law_rows, defScope s__law_rows, [], []⟩
def df27 : He.DefD := ⟨("_law_keeps", none), "_law_keeps", "_law_keeps", defArgs s__law_keeps, defBody s__law_keeps, defScope s__law_keeps, [], []⟩
def df28 : He.DefD := ⟨("law", none), "law", "law", defArgs s_law, defBody s_law, defScope s_law, [], []⟩
def fnL : List He.DefD := [df0, df1, df2, df3, df4, df5, df6, df7, df8, df9, df10, df11, df12, df13, df14, df15, df16, df17, df18, df19, df20, df21, df22, df23, df24, df25, df26, df27, df28]
def faL : List He.Fa := ([.glo "is_whole", .glo "is_number", .glo "is_ratio", .glo "is_valued", .glo "lowest", .glo "ratio_of", .glo "plus", .glo "times", .glo "below", .glo "dot", .glo "is_row", .mkr "Problem", .meth "Problem" "keeps", .glo "_law_source", .glo "_law_draw", .glo "_law_of", .glo "_law_same", .glo "_law_low", .glo "_law_plus", .glo "_law_times", .glo "_law_minus", .glo "_law_less", .glo "_law_total", .glo "_law_dot", .glo "_law_length", .glo "_law_gain", .glo "_law_rows", .glo "_law_keeps", .glo "law", .glo "Problem"] : List He.Fa) ++ ([.cls "Problem", .noat "Problem" "own_size", .noat "Problem" "own_rows", .free "abs", .free "all", .free "bool", .free "enumerate", .free "int", .free "isinstance", .free "len", .free "list", .free "range", .free "repr", .free "tuple", .free "zip"] : List He.Fa)
def csL : List (Str × D) := [("ZERO", .tup [.int 0, .int 1]), ("MOST_UNKNOWNS", .int 60)]
def bsL : List (Str × String) := [("gcd", "math.gcd")]
abbrev RR : PySem.W.OpenRow := PySem.W.OpenLaw.row PySem.Challenge.rw_missingmiles_k08_values_that_keep_rows
abbrev hk : PySem.W.Hook := hookX 4 csL bsL faL fnL
def ob (s : PySem.W.SharedT) : AlX := obsXG 4 csL bsL faL fnL (HandSHeadRun.getT s)
theorem ob_eq (s : PySem.W.SharedT) : ob s = hk.obs s.abs := obsXG_eq (HandSHeadRun.getT_eq s)
def names : List PySem.Str := (["_wall", "MilesError", "InvalidRatio", "InvalidNumber", "InvalidRow", "ZERO", "is_whole", "is_number", "is_ratio", "is_valued", "lowest", "ratio_of", "plus", "times", "below", "dot", "MOST_UNKNOWNS", "is_row", "Problem", "_law_source", "_law_draw", "_law_of", "_law_same", "_law_low", "_law_plus", "_law_times", "_law_minus", "_law_less", "_law_total", "_law_dot"] : List PySem.Str) ++ (["_law_length", "_law_gain", "_law_rows", "_law_keeps"] : List PySem.Str)
abbrev qv : Program := PySem.W.view RR.prog [0, 39]
theorem run (w : World) : HandSHeadRun.RunEqI RR qv hk ob 9000 names w := by
  unfold HandSHeadRun.RunEqI
  kernel_rfl
theorem facts {P : Program} {w : World} {K : PySem.W.Frag} {h : Heap} {mg : Str → Option Value} {f : Addr} (X : K.In h) (G : h.Ns mainGlobals mg) (hfa : mg ("law" : Str) = some (.ref f)) (c : SaysX csL bsL faL fnL K) :
    ∃ fd : FuncData, (∀ (s : Shared) (v : Value), BindsTo s fd ⟨[v], []⟩ [("_law_script", v)]) ∧ ∀ base : Heap, K.In base → base.Ns mainGlobals mg → FnR P w K mg base 7 f fd ["_law_script"] (spLaw K) := by
  obtain ⟨fd0, F0⟩ := c.s.def_ 0 (d := df0) rfl
  obtain ⟨fd1, F1⟩ := c.s.def_ 1 (d := df1) rfl
  obtain ⟨fd2, F2⟩ := c.s.def_ 2 (d := df2) rfl
  obtain ⟨fd3, F3⟩ := c.s.def_ 3 (d := df3) rfl
  obtain ⟨fd4, F4⟩ := c.s.def_ 4 (d := df4) rfl
  obtain ⟨fd5, F5⟩ := c.s.def_ 5 (d := df5) rfl
  obtain ⟨fd6, F6⟩ := c.s.def_ 6 (d := df6) rfl
  obtain ⟨fd7, F7⟩ := c.s.def_ 7 (d := df7) rfl
  obtain ⟨fd8, F8⟩ := c.s.def_ 8 (d := df8) rfl
  obtain ⟨fd9, F9⟩ := c.s.def_ 9 (d := df9) rfl
  obtain ⟨fd10, F10⟩ := c.s.def_ 10 (d := df10) rfl
  obtain ⟨fd11, F11⟩ := c.s.def_ 11 (d := df11) rfl
  obtain ⟨fd12, F12⟩ := c.s.def_ 12 (d := df12) rfl
  obtain ⟨fd13, F13⟩ := c.s.def_ 13 (d := df13) rfl
  obtain ⟨fd14, F14⟩ := c.s.def_ 14 (d := df14) rfl
  obtain ⟨fd15, F15⟩ := c.s.def_ 15 (d := df15) rfl
  obtain ⟨fd16, F16⟩ := c.s.def_ 16 (d := df16) rfl
  obtain ⟨fd17, F17⟩ := c.s.def_ 17 (d := df17) rfl
  obtain ⟨fd18, F18⟩ := c.s.def_ 18 (d := df18) rfl
  obtain ⟨fd19, F19⟩ := c.s.def_ 19 (d := df19) rfl
  obtain ⟨fd20, F20⟩ := c.s.def_ 20 (d := df20) rfl
  obtain ⟨fd21, F21⟩ := c.s.def_ 21 (d := df21) rfl
  obtain ⟨fd22, F22⟩ := c.s.def_ 22 (d := df22) rfl
  obtain ⟨fd23, F23⟩ := c.s.def_ 23 (d := df23) rfl
  obtain ⟨fd24, F24⟩ := c.s.def_ 24 (d := df24) rfl
  obtain ⟨fd25, F25⟩ := c.s.def_ 25 (d := df25) rfl
  obtain ⟨fd26, F26⟩ := c.s.def_ 26 (d := df26) rfl
  obtain ⟨fd27, F27⟩ := c.s.def_ 27 (d := df27) rfl
  obtain ⟨fd28, F28⟩ := c.s.def_ 28 (d := df28) rfl
  have e := hfa.symm.trans (He.glo_ok X G (c.s.fact 28 (f := .glo "law") rfl))
  cases e
  have T : Tx K mg (fun i => match i with | 0 => He.ga K "is_whole" | 1 => He.ga K "is_number" | 2 => He.ga K "is_ratio" | 3 => He.ga K "is_valued" | 4 => He.ga K "lowest" | 5 => He.ga K "ratio_of" | 6 => He.ga K "plus" | 7 => He.ga K "times" | 8 => He.ga K "below" | 9 => He.ga K "dot" | 10 => He.ga K "is_row" | 11 => He.ma K (He.ga K "Problem") "__init__" | 12 => He.ma K (He.ga K "Problem") "keeps" | 13 => He.ga K "_law_source" | 14 => He.ga K "_law_draw" | 15 => He.ga K "_law_of" | 16 => He.ga K "_law_same" | 17 => He.ga K "_law_low" | 18 => He.ga K "_law_plus" | 19 => He.ga K "_law_times" | 20 => He.ga K "_law_minus" | 21 => He.ga K "_law_less" | 22 => He.ga K "_law_total" | 23 => He.ga K "_law_dot" | 24 => He.ga K "_law_length" | 25 => He.ga K "_law_gain" | 26 => He.ga K "_law_rows" | 27 => He.ga K "_law_keeps" | 28 => He.ga K "law" | _ => 0) (fun i => match i with | 0 => fd0 | 1 => fd1 | 2 => fd2 | 3 => fd3 | 4 => fd4 | 5 => fd5 | 6 => fd6 | 7 => fd7 | 8 => fd8 | 9 => fd9 | 10 => fd10 | 11 => fd11 | 12 => fd12 | 13 => fd13 | 14 => fd14 | 15 => fd15 | 16 => fd16 | 17 => fd17 | 18 => fd18 | 19 => fd19 | 20 => fd20 | 21 => fd21 | 22 => fd22 | 23 => fd23 | 24 => fd24 | 25 => fd25 | 26 => fd26 | 27 => fd27 | 28 => fd28 | _ => fd0) :=
    { F_is_whole := F0
      m_is_whole := He.glo_ok X G (c.s.fact 0 (f := .glo "is_whole") rfl)
      F_is_number := F1
      m_is_number := He.glo_ok X G (c.s.fact 1 (f := .glo "is_number") rfl)
      F_is_ratio := F2
      m_is_ratio := He.glo_ok X G (c.s.fact 2 (f := .glo "is_ratio") rfl)
      F_is_valued := F3
      m_is_valued := He.glo_ok X G (c.s.fact 3 (f := .glo "is_valued") rfl)
      F_lowest := F4
      m_lowest := He.glo_ok X G (c.s.fact 4 (f := .glo "lowest") rfl)
      F_ratio_of := F5
      m_ratio_of := He.glo_ok X G (c.s.fact 5 (f := .glo "ratio_of") rfl)
      F_plus := F6
      m_plus := He.glo_ok X G (c.s.fact 6 (f := .glo "plus") rfl)
      F_times := F7
      m_times := He.glo_ok X G (c.s.fact 7 (f := .glo "times") rfl)
      F_below := F8
      m_below := He.glo_ok X G (c.s.fact 8 (f := .glo "below") rfl)
      F_dot := F9
      m_dot := He.glo_ok X G (c.s.fact 9 (f := .glo "dot") rfl)
      F_is_row := F10
      m_is_row := He.glo_ok X G (c.s.fact 10 (f := .glo "is_row") rfl)
      F_Problem___init__ := F11
      mk_Problem := He.mkr_ok (c.s.fact 11 (f := .mkr "Problem") rfl)
      F_Problem_keeps := F12
      me_Problem_keeps := He.meth_ok (c.s.fact 12 (f := .meth "Problem" "keeps") rfl)
      F__law_source := F13
      m__law_source := He.glo_ok X G (c.s.fact 13 (f := .glo "_law_source") rfl)
      F__law_draw := F14
      m__law_draw := He.glo_ok X G (c.s.fact 14 (f := .glo "_law_draw") rfl)
      F__law_of := F15
      m__law_of := He.glo_ok X G (c.s.fact 15 (f := .glo "_law_of") rfl)
      F__law_same := F16
      m__law_same := He.glo_ok X G (c.s.fact 16 (f := .glo "_law_same") rfl)
      F__law_low := F17
      m__law_low := He.glo_ok X G (c.s.fact 17 (f := .glo "_law_low") rfl)
      F__law_plus := F18
      m__law_plus := He.glo_ok X G (c.s.fact 18 (f := .glo "_law_plus") rfl)
      F__law_times := F19
      m__law_times := He.glo_ok X G (c.s.fact 19 (f := .glo "_law_times") rfl)
      F__law_minus := F20
      m__law_minus := He.glo_ok X G (c.s.fact 20 (f := .glo "_law_minus") rfl)
      F__law_less := F21
      m__law_less := He.glo_ok X G (c.s.fact 21 (f := .glo "_law_less") rfl)
      F__law_total := F22
      m__law_total := He.glo_ok X G (c.s.fact 22 (f := .glo "_law_total") rfl)
      F__law_dot := F23
      m__law_dot := He.glo_ok X G (c.s.fact 23 (f := .glo "_law_dot") rfl)
      F__law_length := F24
      m__law_length := He.glo_ok X G (c.s.fact 24 (f := .glo "_law_length") rfl)
      F__law_gain := F25
      m__law_gain := He.glo_ok X G (c.s.fact 25 (f := .glo "_law_gain") rfl)
      F__law_rows := F26
      m__law_rows := He.glo_ok X G (c.s.fact 26 (f := .glo "_law_rows") rfl)
      F__law_keeps := F27
      m__law_keeps := He.glo_ok X G (c.s.fact 27 (f := .glo "_law_keeps") rfl)
      F_law := F28
      m_Problem := He.glo_ok X G (c.s.fact 29 (f := .glo "Problem") rfl)
      cl_Problem := He.cls_ok (c.s.fact 30 (f := .cls "Problem") rfl)
      na_Problem_own_size := He.noat_ok (c.s.fact 31 (f := .noat "Problem" "own_size") rfl)
      na_Problem_own_rows := He.noat_ok (c.s.fact 32 (f := .noat "Problem" "own_rows") rfl)
      n_abs := He.free_ok X G (c.s.fact 33 (f := .free "abs") rfl)
      n_all := He.free_ok X G (c.s.fact 34 (f := .free "all") rfl)
      n_bool := He.free_ok X G (c.s.fact 35 (f := .free "bool") rfl)
      n_enumerate := He.free_ok X G (c.s.fact 36 (f := .free "enumerate") rfl)
      n_int := He.free_ok X G (c.s.fact 37 (f := .free "int") rfl)
      n_isinstance := He.free_ok X G (c.s.fact 38 (f := .free "isinstance") rfl)
      n_len := He.free_ok X G (c.s.fact 39 (f := .free "len") rfl)
      n_list := He.free_ok X G (c.s.fact 40 (f := .free "list") rfl)
      n_range := He.free_ok X G (c.s.fact 41 (f := .free "range") rfl)
      n_repr := He.free_ok X G (c.s.fact 42 (f := .free "repr") rfl)
      n_tuple := He.free_ok X G (c.s.fact 43 (f := .free "tuple") rfl)
      n_zip := He.free_ok X G (c.s.fact 44 (f := .free "zip") rfl)
      b_gcd := c.blt X G 0 rfl
      c_ZERO := c.glob X G 0 rfl
      c_MOST_UNKNOWNS := c.glob X G 1 rfl }
  exact ⟨fd28, binds1_of F28 fun _ _ _ _ _ _ u => rfl, fun base _ _ => ok_law T⟩
end
end K08
open PySem PySem.W PySem.Calls PyProof.Rows in
set_option maxRecDepth 100000 in
set_option maxHeartbeats 0 in
theorem PySem.Challenge.cw_missingmiles_k08_values_that_keep_rows_holds : PySem.Challenge.rw_missingmiles_k08_values_that_keep_rows.Holds := by
  w_on; o_law
  refine HandSHeadRun.head_imp (r := OpenLaw.row PySem.Challenge.rw_missingmiles_k08_values_that_keep_rows) (q := K08.qv) (H := K08.hk) (ob := K08.ob) (M := 9000) (loose := K08.names) (d := HandSHeadRun.topDef (OpenLaw.row PySem.Challenge.rw_missingmiles_k08_values_that_keep_rows).prog 39) (kwd := []) K08.ob_eq
    K08.run (by kernel_rfl) (by kernel_rfl) (by kernel_rfl) (by rfl) (by first | assumption | decide +kernel) (by decide +kernel) ⟨rfl, rfl, rfl, rfl, rfl, by decide +kernel⟩ ?hw ?hc
  case hw => w_witness2
  case hc =>
    refine DL.walk_ofX (l := PySem.Challenge.rw_missingmiles_k08_values_that_keep_rows) (n := 63) (k := 7) (x := "_law_script") rfl (by decide) (by kernel_rfl) ⟨rfl, by decide, by decide⟩ ?F
    intro w mg fa h Y G hmg0
    obtain ⟨K, KX, c⟩ := Y
    have hmg : mg ("law" : PySem.Str) = some (.ref fa) := by
      have e : (HandSHeadRun.topDef (OpenLaw.row PySem.Challenge.rw_missingmiles_k08_values_that_keep_rows).prog 39).name = ("law" : PySem.Str) := by kernel_rfl
      rw [← e]
      exact hmg0
    obtain ⟨fd, hb, hF⟩ := K08.facts (P := PySem.Challenge.rw_missingmiles_k08_values_that_keep_rows.prog) (w := w) KX G hmg c
    exact ⟨K, fd, DL.spLaw K, KX, hb, fun H a ns hl hS => ⟨a, ns, rfl, hS, hl, fun _ => rfl⟩, hF⟩

