import PyProof.Rows.All
import Wide.All
import OpenK.AllK
import Wide.FinOn
import HandS.ForMost
import HandS.Exc
import HandS.TryOnly
import HandS.ExcOwn
import HandS.WordsExc
import HandS.CallSlots
import HandS.Walk
import HandS.Wide
import HandS.Gcd
import HandS.IsInst
import HandS.Defaults
import HandS.TupAny
import HandS.Deep
import HandS.RaiseMore
import HandS.Flow
import HandS.Zip
import KE.KStateDown
import HandS.Head0
import HandS.Head1
import HandS.Head2
import HandS.HeadEnd
import HandS.HeadHook1
import HandS.HeadHook2
import PySem.Challenge.RW_missingmiles_k05_names_and_layers
set_option Elab.async false
set_option linter.all false
set_option maxRecDepth 100000
set_option autoImplicit false
set_option maxHeartbeats 2000000
/-! DL: readings over data trees. A value is a tree (D), the law's source of draws, or a list that nobody else holds. -/
namespace DL
open PySem PySem.Spec PyProof.Rows L2

/-! ### data -/
inductive D where
  | non | bl (b : Bool) | int (i : Int) | str (x : Str)
  | lst (ds : List D) | tup (ds : List D)
  | ins (C : Addr) (fs : List (Str × D))
  | raw (v : V)

abbrev Ex (H H' : Hp) : Prop := ∀ a o, H a = some o → H' a = some o
theorem Ex.refl (H : Hp) : Ex H H := fun _ _ h => h
theorem Ex.trans {H H1 H2 : Hp} (a : Ex H H1) (b : Ex H1 H2) : Ex H H2 := fun x o h => b x o (a x o h)
theorem Ex.new {H : Hp} {p : Addr} {o : HO} (h : H p = none) : Ex H (upd H p o) := fun a u e => by
  rw [upd_ne (ne_of_none e h)]; exact e
theorem Ex.up {G H : Hp} {p : Addr} {o : HO} (e : Ex G H) : Ex (upd G p o) (upd H p o) := fun a u h => by
  by_cases q : a = p
  · subst q; rw [upd_same] at h ⊢; exact h
  · rw [upd_ne q] at h ⊢; exact e a u h
theorem Ex.free {G H : Hp} (e : Ex G H) {a : Addr} (h : H a = none) : G a = none := by
  cases q : G a with
  | none => rfl
  | some o => rw [e a o q] at h; cases h
theorem ex_rd {H H' : Hp} {a : Addr} {u : HO} (e : Ex H H') (h : Rd H a u) : Rd H' a u := by
  rcases h with h | ⟨o, h⟩
  · exact Or.inl (e a _ h)
  · exact Or.inr ⟨o, e a _ h⟩
theorem ex_l {K : PySem.W.Frag} {H H' : Hp} {a : Addr} {xs : List V} (e : Ex H H') (h : SqL K H a xs) : SqL K H' a xs := by
  rcases h with h | h
  · exact Or.inl (ex_rd e h)
  · exact Or.inr h
theorem ex_t {K : PySem.W.Frag} {H H' : Hp} {a : Addr} {xs : List V} (e : Ex H H') (h : SqT K H a xs) : SqT K H' a xs := by
  rcases h with h | h
  · exact Or.inl (ex_rd e h)
  · exact Or.inr h

mutual
/-- the value v is the tree d, all of its objects standing in G -/
inductive DOk (K : PySem.W.Frag) (G : Hp) : V → D → Prop
  | non : DOk K G .non .non
  | bl (b : Bool) : DOk K G (.bl b) (.bl b)
  | int (i : Int) : DOk K G (.int i) (.int i)
  | str (x : Str) : DOk K G (.str x) (.str x)
  | lst {a : Addr} {vs : List V} {ds : List D} : G a = some (.lst vs) → DAll K G vs ds → DOk K G (.ref a) (.lst ds)
  | tup {a : Addr} {vs : List V} {ds : List D} : SqT K G a vs → DAll K G vs ds → DOk K G (.ref a) (.tup ds)
  | ins {a C dx : Addr} {vs : List (Str × V)} {fs : List (Str × D)} : G a = some (.ins C dx vs) → G dx = some (.own a) → FAll K G vs fs → DOk K G (.ref a) (.ins C fs)
  | raw (v : V) : DOk K G v (.raw v)
inductive DAll (K : PySem.W.Frag) (G : Hp) : List V → List D → Prop
  | nil : DAll K G [] []
  | cons {v : V} {d : D} {vs : List V} {ds : List D} : DOk K G v d → DAll K G vs ds → DAll K G (v :: vs) (d :: ds)
inductive FAll (K : PySem.W.Frag) (G : Hp) : List (Str × V) → List (Str × D) → Prop
  | nil : FAll K G [] []
  | cons {x : Str} {v : V} {d : D} {vs : List (Str × V)} {ds : List (Str × D)} : DOk K G v d → FAll K G vs ds → FAll K G ((x, v) :: vs) ((x, d) :: ds)
end

section
variable {K : PySem.W.Frag} {G G' : Hp}
mutual
theorem DOk.mono (e : Ex G G') : ∀ {v : V} {d : D}, DOk K G v d → DOk K G' v d
  | _, _, .non => .non
  | _, _, .bl b => .bl b
  | _, _, .int i => .int i
  | _, _, .str x => .str x
  | _, _, .lst h a => .lst (e _ _ h) (DAll.mono e a)
  | _, _, .tup h a => .tup (ex_t e h) (DAll.mono e a)
  | _, _, .ins h h2 a => .ins (e _ _ h) (e _ _ h2) (FAll.mono e a)
  | _, _, .raw v => .raw v
theorem DAll.mono (e : Ex G G') : ∀ {vs : List V} {ds : List D}, DAll K G vs ds → DAll K G' vs ds
  | _, _, .nil => .nil
  | _, _, .cons h t => .cons (DOk.mono e h) (DAll.mono e t)
theorem FAll.mono (e : Ex G G') : ∀ {vs : List (Str × V)} {ds : List (Str × D)}, FAll K G vs ds → FAll K G' vs ds
  | _, _, .nil => .nil
  | _, _, .cons h t => .cons (DOk.mono e h) (FAll.mono e t)
end
theorem DAll.length : ∀ {vs : List V} {ds : List D}, DAll K G vs ds → vs.length = ds.length
  | _, _, .nil => rfl
  | _, _, .cons _ t => congrArg (· + 1) (DAll.length t)
theorem DAll.get : ∀ {vs : List V} {ds : List D} {i : Nat} {d : D}, DAll K G vs ds → ds[i]? = some d → ∃ v, vs[i]? = some v ∧ DOk K G v d
  | _, _, _, _, .nil, e => by simp at e
  | _, _, 0, _, .cons h _, e => by simp at e; subst e; exact ⟨_, rfl, h⟩
  | _, _, i + 1, _, .cons _ t, e => by
    obtain ⟨v, h1, h2⟩ := DAll.get (i := i) t (by simpa using e)
    exact ⟨v, by simpa using h1, h2⟩
theorem DAll.getV : ∀ {vs : List V} {ds : List D} {i : Nat} {v : V}, DAll K G vs ds → vs[i]? = some v → ∃ d, ds[i]? = some d ∧ DOk K G v d
  | _, _, _, _, .nil, e => by simp at e
  | _, _, 0, _, .cons h _, e => by simp at e; subst e; exact ⟨_, rfl, h⟩
  | _, _, i + 1, _, .cons _ t, e => by
    obtain ⟨v, h1, h2⟩ := DAll.getV (i := i) t (by simpa using e)
    exact ⟨v, by simpa using h1, h2⟩
theorem DAll.append : ∀ {vs ws : List V} {ds es : List D}, DAll K G vs ds → DAll K G ws es → DAll K G (vs ++ ws) (ds ++ es)
  | _, _, _, _, .nil, s => s
  | _, _, _, _, .cons h t, s => .cons h (DAll.append t s)
theorem DAll.take : ∀ {vs : List V} {ds : List D} (n : Nat), DAll K G vs ds → DAll K G (vs.take n) (ds.take n)
  | _, _, 0, _ => by rw [List.take_zero, List.take_zero]; exact .nil
  | _, _, _ + 1, .nil => .nil
  | _, _, n + 1, .cons h t => .cons h (DAll.take n t)
theorem DAll.drop : ∀ {vs : List V} {ds : List D} (n : Nat), DAll K G vs ds → DAll K G (vs.drop n) (ds.drop n)
  | _, _, 0, r => r
  | _, _, _ + 1, .nil => .nil
  | _, _, n + 1, .cons _ t => DAll.drop n t
theorem DAll.set {v : V} {d : D} (r : DOk K G v d) : ∀ {vs : List V} {ds : List D} (i : Nat), DAll K G vs ds → DAll K G (vs.set i v) (ds.set i d)
  | _, _, _, .nil => .nil
  | _, _, 0, .cons _ t => .cons r t
  | _, _, i + 1, .cons q t => .cons q (DAll.set r i t)
theorem DAll.ints : ∀ (ns : List Int), DAll K G (ns.map V.int) (ns.map D.int)
  | [] => .nil
  | n :: r => .cons (.int n) (DAll.ints r)
theorem FAll.look : ∀ {vs : List (Str × V)} {fs : List (Str × D)} {f : Str} {d : D}, FAll K G vs fs → fs.lookup f = some d → ∃ v, vs.lookup f = some v ∧ DOk K G v d
  | _, _, _, _, .nil, e => by simp at e
  | _, _, f, d, .cons (x := x) h t, e => by
    rw [List.lookup_cons] at e
    rw [List.lookup_cons]
    cases q : f == x with
    | true => rw [q] at e; cases e; exact ⟨_, rfl, h⟩
    | false => rw [q] at e; exact FAll.look t e
theorem FAll.lookN : ∀ {vs : List (Str × V)} {fs : List (Str × D)} {f : Str}, FAll K G vs fs → fs.lookup f = none → vs.lookup f = none
  | _, _, _, .nil, _ => rfl
  | _, _, f, .cons (x := x) h t, e => by
    rw [List.lookup_cons] at e ⊢
    cases q : f == x with
    | true => rw [q] at e; cases e
    | false => rw [q] at e; exact FAll.lookN t e
end

/-! ### values -/
/-- what an object that is held alone looks like -/
inductive OO where
  | lst (ds : List D)
inductive DV where
  | d (x : D) | src | own (o : OO) | bor (o : OO) | see (o : OO)

def OwnOk (K : PySem.W.Frag) (G H : Hp) (a : Addr) : OO → Prop
  | .lst ds => ∃ vs, H a = some (.lst vs) ∧ DAll K G vs ds
theorem OwnOk.there {K : PySem.W.Frag} {G H : Hp} {a : Addr} {o : OO} (h : OwnOk K G H a o) : H a ≠ none := by
  cases o with
  | lst ds => obtain ⟨vs, e, _⟩ := h; rw [e]; simp
theorem OwnOk.keep {K : PySem.W.Frag} {G H G' H' : Hp} {a : Addr} {o : OO} (h : OwnOk K G H a o) (e : Ex G G') (k : H' a = H a) : OwnOk K G' H' a o := by
  cases o with
  | lst ds => obtain ⟨vs, q, r⟩ := h; exact ⟨vs, by rw [k]; exact q, r.mono e⟩

/-- the source of draws: the cells, the place, the rest, the mixed number, the count -/
def SrcOk (K : PySem.W.Frag) (G H : Hp) (a : Addr) : Prop := G a = none ∧ ∃ (c : Addr) (ns : List Int) (i r sd n : Int),
  H a = some (.lst [.ref c, .int i, .int r, .int sd, .int n]) ∧ SqL K G c (ns.map V.int) ∧ ns.length ≤ 63 ∧ 0 ≤ i ∧ 0 ≤ r ∧ 0 ≤ sd ∧ sd < 4294967296

def VOk (K : PySem.W.Frag) (G : Hp) (so : Option Addr) (H : Hp) (v : V) : DV → Prop
  | .d x => DOk K G v x
  | .src => ∃ a, so = some a ∧ v = .ref a
  | .own o => ∃ a, v = .ref a ∧ G a = none ∧ so ≠ some a ∧ OwnOk K G H a o
  | .bor o => ∃ a, v = .ref a ∧ so ≠ some a ∧ OwnOk K G H a o
  | .see o => ∃ a, v = .ref a ∧ so ≠ some a ∧ OwnOk K G H a o

structure HRep (K : PySem.W.Frag) (G : Hp) (so : Option Addr) (H : Hp) : Prop where
  ex : Ex G H
  src : ∀ a, so = some a → SrcOk K G H a
theorem HRep.nsrc {K : PySem.W.Frag} {G : Hp} {so : Option Addr} {H : Hp} (h : HRep K G so H) {a : Addr} {o : HO} (q : G a = some o) : so ≠ some a := fun z => by
  rw [(h.src a z).1] at q; cases q
theorem HRep.there {K : PySem.W.Frag} {G : Hp} {so : Option Addr} {H : Hp} (h : HRep K G so H) {a : Addr} (q : H a = none) : so ≠ some a := fun z => by
  obtain ⟨_, _, _, _, _, _, _, e, _⟩ := h.src a z
  rw [e] at q; cases q

abbrev DSt := List (Option DV)
def Own (sl : DSt) (σ : L2.St) (a : Addr) : Prop := ∃ (i : Nat) (o : OO), sl[i]? = some (some (.own o)) ∧ σ[i]? = some (some (.ref a))

structure Rep (K : PySem.W.Frag) (G : Hp) (so : Option Addr) (σ : L2.St) (H : Hp) (sl : DSt) : Prop where
  h : HRep K G so H
  len : sl.length = σ.length
  slots : ∀ (i : Nat) (dv : DV), sl[i]? = some (some dv) → ∃ v, σ[i]? = some (some v) ∧ VOk K G so H v dv
  sep : ∀ (i j : Nat) (o o' : OO) (a : Addr), sl[i]? = some (some (.own o)) → sl[j]? = some (some (.own o')) → σ[i]? = some (some (.ref a)) → σ[j]? = some (some (.ref a)) → i = j
  bor : ∀ (i : Nat) (o : OO) (a : Addr), sl[i]? = some (some (.bor o)) → σ[i]? = some (some (.ref a)) → ¬ Own sl σ a
  nse : ∀ (i : Nat) (o : OO), sl[i]? ≠ some (some (.see o))

/-- the heap has grown, all that stood stands; G may have taken in what is new or what the slots held -/
structure Post (K : PySem.W.Frag) (G : Hp) (so : Option Addr) (σ : L2.St) (H : Hp) (sl : DSt) (H' G' : Hp) (sl' : DSt) : Prop where
  ex : Ex G G'
  rep : Rep K G' so σ H' sl'
  keep : ∀ a o, H a = some o → so ≠ some a → H' a = some o
  frm : ∀ a, H a ≠ none → G a = none → so ≠ some a → ¬ Own sl σ a → G' a = none
  sub : ∀ a, Own sl' σ a → Own sl σ a
  bsub : ∀ (i : Nat) (o : OO), sl'[i]? = some (some (.bor o)) → ∃ o', sl[i]? = some (some (.bor o'))
/-- .. and v is the value dv; one that is held alone is in no slot and was not there before -/
structure PostE (K : PySem.W.Frag) (G : Hp) (so : Option Addr) (σ : L2.St) (H : Hp) (sl : DSt) (v : V) (H' G' : Hp) (dv : DV) (sl' : DSt) : Prop extends Post K G so σ H sl H' G' sl' where
  val : VOk K G' so H' v dv
  new : ∀ a o, dv = .own o → v = .ref a → H a = none ∨ Own sl σ a
  sepv : ∀ a o, dv = .own o ∨ dv = .bor o → v = .ref a → ¬ Own sl' σ a
  nbs : ∀ (a : Addr) (o : OO) (i : Nat) (o' : OO), dv = .own o → v = .ref a → sl'[i]? = some (some (.bor o')) → σ[i]? = some (some (.ref a)) → False

section
variable {K : PySem.W.Frag} {G G1 G2 : Hp} {so : Option Addr} {σ : L2.St} {H H1 H2 : Hp} {sl s1 s2 : DSt} {v x y : V} {dv dx dy : DV}
theorem Rep.nown (r : Rep K G so σ H sl) {a : Addr} (h : Own sl σ a) : H a ≠ none ∧ G a = none ∧ so ≠ some a := by
  obtain ⟨i, o, e1, e2⟩ := h
  obtain ⟨v, e3, e4⟩ := r.slots i _ e1
  rw [e2] at e3; cases e3
  obtain ⟨b, q, g, s, k⟩ := e4
  cases q
  exact ⟨k.there, g, s⟩
theorem Post.refl (r : Rep K G so σ H sl) : Post K G so σ H sl H G sl := ⟨Ex.refl G, r, fun _ _ e _ => e, fun _ _ g _ _ => g, fun _ o => o, fun _ o e => ⟨o, e⟩⟩
theorem keep_ne {H H' : Hp} {so : Option Addr} (k : ∀ a o, H a = some o → so ≠ some a → H' a = some o) {a : Addr} (n : H a ≠ none) (s : so ≠ some a) : H' a = H a := by
  cases q : H a with
  | none => exact absurd q n
  | some o => exact k a o q s
theorem Post.trans (a : Post K G so σ H sl H1 G1 s1) (b : Post K G1 so σ H1 s1 H2 G2 s2) : Post K G so σ H sl H2 G2 s2 :=
  ⟨a.ex.trans b.ex, b.rep, fun c o e s => b.keep c o (a.keep c o e s) s, fun c n g s w => by
    have n1 : H1 c ≠ none := by rw [keep_ne a.keep n s]; exact n
    exact b.frm c n1 (a.frm c n g s w) s fun z => w (a.sub c z), fun c o => a.sub c (b.sub c o), fun i o e => let ⟨o1, e1⟩ := b.bsub i o e; a.bsub i o1 e1⟩
/-- a value that is known stays so -/
theorem VOk.keep (h : VOk K G so H x dx) (e : Ex G G1) (k : ∀ a o, H a = some o → so ≠ some a → H1 a = some o) (g : ∀ a o, dx = .own o → x = .ref a → G1 a = none) : VOk K G1 so H1 x dx := by
  cases dx with
  | d z => exact DOk.mono e h
  | src => exact h
  | own o =>
    obtain ⟨a, q, q1, q2, q3⟩ := h
    exact ⟨a, q, g a o rfl q, q2, q3.keep e (keep_ne k q3.there q2)⟩
  | bor o =>
    obtain ⟨a, q, q2, q3⟩ := h
    exact ⟨a, q, q2, q3.keep e (keep_ne k q3.there q2)⟩
  | see o =>
    obtain ⟨a, q, q2, q3⟩ := h
    exact ⟨a, q, q2, q3.keep e (keep_ne k q3.there q2)⟩
/-- behind a further expression -/
theorem PostE.over (a : PostE K G so σ H sl x H1 G1 dx s1) (b : Post K G1 so σ H1 s1 H2 G2 s2) : VOk K G2 so H2 x dx :=
  a.val.keep b.ex b.keep fun c o e q => by
    have w : VOk K G1 so H1 x dx := a.val
    rw [e] at w
    obtain ⟨c', q', g, s, k⟩ := w
    rw [q] at q'; cases q'
    exact b.frm c k.there g s (a.sepv c o (.inl e) q)
end

/-! ### steps on values alone: the slots are not looked at -/
structure PostV (K : PySem.W.Frag) (G : Hp) (so : Option Addr) (H : Hp) (v : V) (H' G' : Hp) (dv : DV) : Prop where
  ex : Ex G G'
  hrep : HRep K G' so H'
  keep : ∀ a o, H a = some o → so ≠ some a → H' a = some o
  frm : ∀ a, H a ≠ none → G a = none → so ≠ some a → G' a = none
  val : VOk K G' so H' v dv
  new : ∀ a o, dv = .own o → v = .ref a → H a = none
  nob : ∀ o, dv ≠ .bor o
section
variable {K : PySem.W.Frag} {G G' : Hp} {so : Option Addr} {σ : L2.St} {H H' : Hp} {sl : DSt} {v : V} {dv : DV}
theorem PostV.slots (p : PostV K G so H v H' G' dv) (r : Rep K G so σ H sl) : PostE K G so σ H sl v H' G' dv sl where
  ex := p.ex
  rep := ⟨p.hrep, r.len, fun i d e => by
    obtain ⟨w, e1, e2⟩ := r.slots i d e
    refine ⟨w, e1, e2.keep p.ex p.keep fun a o ed q => ?_⟩
    subst ed
    subst q
    obtain ⟨n, g, s⟩ := r.nown ⟨i, o, e, e1⟩
    exact p.frm a n g s, r.sep, r.bor, r.nse⟩
  keep := p.keep
  frm := fun a n g s _ => p.frm a n g s
  sub := fun _ o => o
  bsub := fun _ o e => ⟨o, e⟩
  val := p.val
  new := fun a o e q => .inl (p.new a o e q)
  sepv := fun a o e q z => e.elim (fun e => (r.nown z).1 (p.new a o e q)) fun e => p.nob o e
  nbs := fun a o i o' e q e1 e2 => by
    obtain ⟨w, f1, f2⟩ := r.slots i _ e1
    rw [e2] at f1; cases f1
    obtain ⟨b, z, _, k⟩ := f2
    cases z
    exact k.there (p.new a o e q)
/-- nothing is made -/
theorem PostV.pure (h : HRep K G so H) (w : VOk K G so H v dv) (n : ∀ o, dv ≠ .own o) (m : ∀ o, dv ≠ .bor o) : PostV K G so H v H G dv :=
  ⟨Ex.refl G, h, fun _ _ e _ => e, fun _ _ g _ => g, w, fun _ o e => absurd e (n o), m⟩
/-- a plain value of the model's -/
theorem PostV.dat {x : D} (h : HRep K G so H) (w : DOk K G v x) : PostV K G so H v H G (.d x) := .pure h w (fun _ e => (nomatch e)) fun _ e => (nomatch e)
theorem SrcOk.keep {H H' G G' : Hp} {a : Addr} (s : SrcOk K G H a) (e : Ex G G') (g : G' a = none) (k : H' a = H a) : SrcOk K G' H' a := by
  obtain ⟨_, c, ns, i, r, sd, n, h1, h2, h3⟩ := s
  exact ⟨g, c, ns, i, r, sd, n, by rw [k]; exact h1, ex_l e h2, h3⟩
theorem HRep.alloc {p : Addr} {o : HO} (h : HRep K G so H) (n : H p = none) : HRep K G so (upd H p o) :=
  ⟨h.ex.trans (Ex.new n), fun a e => (h.src a e).keep (Ex.refl G) (h.src a e).1 (upd_ne fun z => h.there n (z ▸ e))⟩
theorem HRep.allocG {p : Addr} {o : HO} (h : HRep K G so H) (n : H p = none) : HRep K (upd G p o) so (upd H p o) :=
  ⟨h.ex.up, fun a e => 
    have z : a ≠ p := fun z => h.there n (z ▸ e)
    (h.src a e).keep (Ex.new (h.ex.free n)) (by rw [upd_ne z]; exact (h.src a e).1) (upd_ne z)⟩
/-- a new list, held alone -/
theorem PostV.list {p : Addr} {vs : List V} {ds : List D} (h : HRep K G so H) (n : H p = none) (a : DAll K G vs ds) : PostV K G so H (.ref p) (upd H p (.lst vs)) G (.own (.lst ds)) :=
  ⟨Ex.refl G, h.alloc n, fun _ _ e _ => Ex.new n _ _ e, fun _ _ g _ => g, ⟨p, rfl, h.ex.free n, h.there n, vs, upd_same, a⟩, fun b o e q => (by cases q; exact n), fun _ e => (nomatch e)⟩
/-- a new tuple -/
theorem PostV.tuple {p : Addr} {vs : List V} {ds : List D} (h : HRep K G so H) (n : H p = none) (a : DAll K G vs ds) : PostV K G so H (.ref p) (upd H p (.tup vs)) (upd G p (.tup vs)) (.d (.tup ds)) :=
  ⟨Ex.new (h.ex.free n), h.allocG n, fun _ _ e _ => Ex.new n _ _ e, fun b q g _ => by rw [upd_ne (fun z => by subst z; exact q n)]; exact g,
    .tup (SqT.of upd_same) (a.mono (Ex.new (h.ex.free n))), fun _ o e => (nomatch e), fun _ e => (nomatch e)⟩
theorem PostV.trans {v1 v2 : V} {d1 d2 : DV} {H1 H2 G1 G2 : Hp} (a : PostV K G so H v1 H1 G1 d1) (b : PostV K G1 so H1 v2 H2 G2 d2) : PostV K G so H v2 H2 G2 d2 :=
  ⟨a.ex.trans b.ex, b.hrep, fun c o e s => b.keep c o (a.keep c o e s) s, fun c n g s => b.frm c (by rw [keep_ne a.keep n s]; exact n) (a.frm c n g s) s, b.val, fun c o e q => by
    cases z : H c with
    | none => rfl
    | some u =>
      have n := b.new c o e q
      by_cases s : so = some c
      · have := (b.hrep.src c s)
        obtain ⟨_, _, _, _, _, _, _, k, _⟩ := a.hrep.src c s
        rw [k] at n; cases n
      · rw [a.keep c u z s] at n
        exact (nomatch n), b.nob⟩
/-- what was held alone goes into the ground -/
theorem PostV.publish {ds : List D} (p : PostV K G so H v H' G' (.own (.lst ds))) : ∃ G2, PostV K G so H v H' G2 (.d (.lst ds)) := by
  obtain ⟨a, rfl, g, s, vs, e, al⟩ := p.val
  refine ⟨upd G' a (.lst vs), p.ex.trans (Ex.new g), ⟨fun b o q => ?_, fun b e' => ?_⟩, p.keep, fun b n gb sb => ?_, .lst upd_same (al.mono (Ex.new g)), fun _ o e => (nomatch e), fun _ e => (nomatch e)⟩
  · by_cases z : b = a
    · subst z; rw [upd_same] at q; cases q; exact e
    · rw [upd_ne z] at q; exact p.hrep.ex b o q
  · have z : b ≠ a := fun z => s (z ▸ e')
    exact (p.hrep.src b e').keep (Ex.new g) (by rw [upd_ne z]; exact (p.hrep.src b e').1) rfl
  · have z : b ≠ a := fun z => by subst z; exact n (p.new b _ rfl rfl)
    rw [upd_ne z]; exact p.frm b n gb sb
end
end DL

set_option Elab.async false
set_option linter.all false
set_option maxRecDepth 100000
set_option autoImplicit false
set_option maxHeartbeats 2000000
namespace DL
open PySem PySem.Spec PyProof.Rows L2

/-! ### readings -/
abbrev XP := Value → List (Str × D) → DSt → Prop
abbrev TD := DSt → (DV → DSt → Prop) → XP → Prop
abbrev TDT := DSt → (Bool → DSt → Prop) → XP → Prop
abbrev TDA := DSt → (List DV → DSt → Prop) → XP → Prop
structure EndsD where
  nx : DSt → Prop
  rt : DV → Prop
  bk : DSt → Prop
  ct : DSt → Prop
  xc : XP
abbrev TDS := EndsD → DSt → Prop

def XdOk (K : PySem.W.Frag) (G H : Hp) : Option Addr → List (Str × D) → Prop
  | some dx, fs => ∃ vs, H dx = some (.xd vs) ∧ FAll K G vs fs
  | none, fs => fs = []
def XOk (K : PySem.W.Frag) (W : WX) (G : Hp) (so : Option Addr) (σ : L2.St) (H : Hp) (sl : DSt) (E : XP) : Prop :=
  ∀ cls d H' G' fs sl', Post K G so σ H sl H' G' sl' → XdOk K G' H' d fs → E cls fs sl' → W cls d σ H'
inductive VsOk (K : PySem.W.Frag) (G : Hp) (so : Option Addr) (H : Hp) : List V → List DV → Prop
  | nil : VsOk K G so H [] []
  | cons {v : V} {d : DV} {vs : List V} {ds : List DV} : VOk K G so H v d → (∀ o, d ≠ .own o) → VsOk K G so H vs ds → VsOk K G so H (v :: vs) (d :: ds)

section
variable (K : PySem.W.Frag) (W : WX)
def up (t : TD) : TE := fun σ H R => ∃ G so sl Q E, Rep K G so σ H sl ∧ t sl Q E ∧ (∀ v H' G' dv sl', PostE K G so σ H sl v H' G' dv sl' → Q dv sl' → R v H') ∧ XOk K W G so σ H sl E
def upT (t : TDT) : TT := fun σ H R => ∃ G so sl Q E, Rep K G so σ H sl ∧ t sl Q E ∧ (∀ b H' G' sl', Post K G so σ H sl H' G' sl' → Q b sl' → R b H') ∧ XOk K W G so σ H sl E
def upA (t : TDA) : TA := fun σ H R => ∃ G so sl Q E, Rep K G so σ H sl ∧ t sl Q E ∧ (∀ vs H' G' ds sl', Post K G so σ H sl H' G' sl' → VsOk K G' so H' vs ds → Q ds sl' → R vs H') ∧ XOk K W G so σ H sl E
end
def DE (X : Cx) (W : WX) (e : Expr) (t : TD) : Prop := PE X e (up X.K W t)
def DT (X : Cx) (W : WX) (e : Expr) (t : TDT) : Prop := PT X e (upT X.K W t)
def DA (X : Cx) (W : WX) (es : List Expr) (t : TDA) : Prop := PA X es (upA X.K W t)

theorem pe_imp {X : Cx} {e : Expr} {t t' : TE} (h : PE X e t) (f : ∀ σ H R, t' σ H R → t σ H R) : PE X e t' := ⟨fun pins s σ H Q I q => h.run pins s σ H Q I (f _ _ _ q)⟩
theorem pt_imp {X : Cx} {e : Expr} {t t' : TT} (h : PT X e t) (f : ∀ σ H R, t' σ H R → t σ H R) : PT X e t' := ⟨fun pins s σ H Q I q => h.run pins s σ H Q I (f _ _ _ q)⟩
theorem pw_imp {X : Cx} {e : Expr} {t t' : TT} (h : PW X e t) (f : ∀ σ H R, t' σ H R → t σ H R) : PW X e t' := ⟨fun wh pins s σ H Q I q => h.run wh pins s σ H Q I (f _ _ _ q)⟩
theorem pa_imp {X : Cx} {es : List Expr} {t t' : TA} (h : PA X es t) (f : ∀ σ H R, t' σ H R → t σ H R) : PA X es t' := ⟨fun pos pins s σ H Q I q => h.run pos pins s σ H Q I (f _ _ _ q)⟩
theorem ps_imp {X : Cx} {e : Stmt} {t t' : TS} (h : PS X e t) (f : ∀ D σ H, t' D σ H → t D σ H) : PS X e t' := ⟨fun pins s σ H Q I q => h.run pins s σ H Q I (f _ _ _ q)⟩
theorem pss_imp {X : Cx} {e : List Stmt} {t t' : TS} (h : PSs X e t) (f : ∀ D σ H, t' D σ H → t D σ H) : PSs X e t' := ⟨fun pins s σ H Q I q => h.run pins s σ H Q I (f _ _ _ q)⟩

section
variable {K : PySem.W.Frag} {W : WX} {G G1 G2 : Hp} {so : Option Addr} {σ : L2.St} {H H1 H2 : Hp} {sl s1 s2 : DSt} {v x y : V} {dv dx dy : DV} {E : XP}
theorem XOk.step (h : XOk K W G so σ H sl E) (p : Post K G so σ H sl H1 G1 s1) : XOk K W G1 so σ H1 s1 E := fun cls d H' G' fs sl' q a b => h cls d H' G' fs sl' (p.trans q) a b
theorem Post.back (a : Post K G so σ H sl H1 G1 s1) {c : Addr} (n : H1 c = none) : H c = none := by
  cases z : H c with
  | none => rfl
  | some u =>
    by_cases s : so = some c
    · obtain ⟨_, _, _, _, _, _, _, k, _⟩ := a.rep.h.src c s
      rw [k] at n; cases n
    · rw [a.keep c u z s] at n; cases n
theorem Post.thenE (a : Post K G so σ H sl H1 G1 s1) (b : PostE K G1 so σ H1 s1 v H2 G2 dv s2) : PostE K G so σ H sl v H2 G2 dv s2 :=
  { a.trans b.toPost with
    val := b.val
    new := fun c o e q => (b.new c o e q).imp a.back (a.sub c)
    sepv := b.sepv
    nbs := b.nbs }
theorem Post.thenV (a : Post K G so σ H sl H1 G1 s1) (b : PostV K G1 so H1 v H2 G2 dv) : PostE K G so σ H sl v H2 G2 dv s1 := a.thenE (b.slots a.rep)
theorem VsOk.keep : ∀ {vs : List V} {ds : List DV}, VsOk K G so H vs ds → Ex G G1 → (∀ a o, H a = some o → so ≠ some a → H1 a = some o) → VsOk K G1 so H1 vs ds
  | _, _, .nil, _, _ => .nil
  | _, _, .cons h n t, e, k => .cons (h.keep e k fun a o q => absurd q (n o)) n (VsOk.keep t e k)
theorem VsOk.length : ∀ {vs : List V} {ds : List DV}, VsOk K G so H vs ds → vs.length = ds.length
  | _, _, .nil => rfl
  | _, _, .cons _ _ t => congrArg (· + 1) (VsOk.length t)
end

/-! ### publishing -/
def pubO : OO → D
  | .lst ds => .lst ds
def pubV : DV → DV
  | .own o => .d (pubO o)
  | x => x
theorem pubV_not (dv : DV) : ∀ o, pubV dv ≠ .own o := fun o h => by cases dv <;> cases h
section
variable {K : PySem.W.Frag} {W : WX} {G G1 G2 : Hp} {so : Option Addr} {σ : L2.St} {H H1 H2 : Hp} {sl s1 s2 : DSt} {v x y : V} {dv dx dy : DV} {E : XP}
theorem own_ok {a : Addr} {o : OO} (h : OwnOk K G H a o) (g : G a = none) : ∃ u, H a = some u ∧ DOk K (upd G a u) (.ref a) (pubO o) := by
  cases o with
  | lst ds => obtain ⟨vs, e, r⟩ := h; exact ⟨_, e, .lst upd_same (r.mono (Ex.new g))⟩
theorem hrep_pub {a : Addr} {u : HO} (h : HRep K G so H) (e : H a = some u) (g : G a = none) (s : so ≠ some a) : HRep K (upd G a u) so H :=
  ⟨fun b o q => by
    by_cases z : b = a
    · subst z; rw [upd_same] at q; cases q; exact e
    · rw [upd_ne z] at q; exact h.ex b o q,
  fun b q => by
    have z : b ≠ a := fun z => s (z ▸ q)
    exact (h.src b q).keep (Ex.new g) (by rw [upd_ne z]; exact (h.src b q).1) rfl⟩
/-- the slots that hold nothing at a are as they were when a goes into the ground -/
theorem rep_pub {a : Addr} {u : HO} (r : Rep K G so σ H sl) (e : H a = some u) (g : G a = none) (s : so ≠ some a) (n : ¬ Own sl σ a) : Rep K (upd G a u) so σ H sl :=
  ⟨hrep_pub r.h e g s, r.len, fun i d q => by
    obtain ⟨w, e1, e2⟩ := r.slots i d q
    refine ⟨w, e1, e2.keep (Ex.new g) (fun _ _ z _ => z) fun b o ed qb => ?_⟩
    subst ed; subst qb
    have z : b ≠ a := fun z => n ⟨i, o, q, z ▸ e1⟩
    rw [upd_ne z]; exact (r.nown ⟨i, o, q, e1⟩).2.1, r.sep, r.bor, r.nse⟩
theorem PostE.pub (p : PostE K G so σ H sl v H1 G1 dv s1) : ∃ G2, PostE K G so σ H sl v H1 G2 (pubV dv) s1 := by
  cases dv with
  | d x => exact ⟨G1, p⟩
  | src => exact ⟨G1, p⟩
  | bor o => exact ⟨G1, p⟩
  | see o => exact ⟨G1, p⟩
  | own o =>
    obtain ⟨a, q, g, s, ok⟩ := p.val
    subst q
    obtain ⟨u, e, dk⟩ := own_ok ok g
    have n := p.sepv a o (.inl rfl) rfl
    refine ⟨upd G1 a u, { ex := p.ex.trans (Ex.new g), rep := rep_pub p.rep e g s n, keep := p.keep, frm := fun b n1 g1 s1' w => ?_, sub := p.sub, bsub := p.bsub, val := dk, new := fun _ o' e' => (nomatch e'), sepv := fun _ o' e' => e'.elim (fun e' => (nomatch e')) fun e' => (nomatch e'), nbs := fun _ _ _ _ e' => (nomatch e') }⟩
    have z : b ≠ a := fun z => by
      subst z
      rcases p.new b o rfl rfl with k | k
      · exact n1 k
      · exact w k
    rw [upd_ne z]; exact p.frm b n1 g1 s1' w
end

/-! ### names, constants -/
def dC (x : D) : TD := fun sl Q _ => Q (.d x) sl
/-- a name, its list shared from now on -/
def dVar (i : Nat) : TD := fun sl Q _ => match sl[i]? with
  | some (some (.own o)) => Q (.d (pubO o)) (sl.set i (some (.d (pubO o))))
  | some (some dv) => Q dv sl
  | _ => False
/-- a name that is looked at -/
def dSee (i : Nat) : TD := fun sl Q _ => match sl[i]? with
  | some (some (.own o)) => Q (.see o) sl
  | some (some dv) => Q dv sl
  | _ => False
section
variable {K : PySem.W.Frag} {W : WX} {G G1 G2 : Hp} {so : Option Addr} {σ : L2.St} {H H1 H2 : Hp} {sl s1 s2 : DSt} {v x y : V} {dv dx dy : DV} {E : XP} {X : Cx}
theorem de_c {e : Expr} {u : V} {d : D} (h : PE X e (tC u)) (r : ∀ G, DOk X.K G u d) : DE X W e (dC d) := pe_imp h fun σ H R ⟨G, so, sl, Q, E, rep, q, hq, _⟩ =>
  hq u H G _ sl ((Post.refl rep).thenV (.dat rep.h (r G))) q
theorem de_int {i : Int} {j : Nat} {pos : Pos} : DE X W (.Constant (.int i) j pos) (dC (.int i)) := de_c pe_int fun _ => .int _
theorem de_bl {b : Bool} {j : Nat} {pos : Pos} : DE X W (.Constant (.bool b) j pos) (dC (.bl b)) := de_c pe_bl fun _ => .bl _
theorem de_non {j : Nat} {pos : Pos} : DE X W (.Constant .none j pos) (dC .non) := de_c pe_non fun _ => .non
theorem de_str {x : Str} {j : Nat} {pos : Pos} : DE X W (.Constant (.str x) j pos) (dC (.str x)) := de_c pe_str fun _ => .str _
theorem VOk.see {o : OO} (h : VOk K G so H v (.own o)) : VOk K G so H v (.see o) := by
  obtain ⟨a, q, _, s, k⟩ := h
  exact ⟨a, q, s, k⟩
theorem PostE.here (rep : Rep K G so σ H sl) (w : VOk K G so H v dv) (n : ∀ o, dv ≠ .own o) (m : ∀ a o, dv = .bor o → v = .ref a → ¬ Own sl σ a) : PostE K G so σ H sl v H G dv sl :=
  { Post.refl rep with
    val := w
    new := fun _ o e => absurd e (n o)
    sepv := fun a o e q => e.elim (fun e => absurd e (n o)) fun e => m a o e q
    nbs := fun _ o _ _ e => absurd e (n o) }
theorem own_set {i : Nat} {d : D} {a : Addr} (h : Own (sl.set i (some (.d d))) σ a) : Own sl σ a ∧ σ[i]? ≠ some (some (.ref a)) ∨ (Own sl σ a ∧ ∃ j, j ≠ i ∧ ∃ o, sl[j]? = some (some (.own o)) ∧ σ[j]? = some (some (.ref a))) := by
  obtain ⟨j, o, e1, e2⟩ := h
  have ne : j ≠ i := fun z => by
    subst z
    rw [List.getElem?_set] at e1
    split at e1
    · split at e1 <;> cases e1
    · rename_i k; exact k rfl
  rw [List.getElem?_set_ne ne.symm] at e1
  exact .inr ⟨⟨j, o, e1, e2⟩, j, ne, o, e1, e2⟩
theorem de_var {i : Nat} {n : Str} {pos : Pos} (h : PE X (.Name n pos) (tVar i)) : DE X W (.Name n pos) (dVar i) := pe_imp h fun σ H R ⟨G, so, sl, Q, E, rep, q, hq, _⟩ => by
  unfold dVar at q
  split at q
  · rename_i o e
    obtain ⟨v, e1, w⟩ := rep.slots i _ e
    refine ⟨v, e1, ?_⟩
    obtain ⟨a, qa, g, s, ok⟩ := w
    subst qa
    obtain ⟨u, eu, dk⟩ := own_ok ok g
    have others : ∀ b, Own (sl.set i (some (.d (pubO o)))) σ b → Own sl σ b ∧ b ≠ a := fun b z => by
      rcases own_set z with ⟨k1, k2⟩ | ⟨k1, j, ne, o', k2, k3⟩
      · exact ⟨k1, fun z => k2 (z ▸ e1)⟩
      · exact ⟨k1, fun z => ne (rep.sep j i o' o a k2 e (z ▸ k3) e1)⟩
    refine hq _ H (upd G a u) _ _ ?_ q
    refine { ex := Ex.new g, rep := ⟨hrep_pub rep.h eu g s, by rw [List.length_set]; exact rep.len, fun j d ej => ?_, fun j k o1 o2 b e1' e2' e3 e4 => ?_, fun j o1 b e1' e2' z => ?_, fun j o1 z => ?_⟩, keep := fun _ _ z _ => z, frm := fun b n1 g1 s1 w => ?_, sub := fun b z => (others b z).1, bsub := fun j o1 z => ?_, val := dk, new := fun _ o' e' => (nomatch e'), sepv := fun _ o' e' => e'.elim (fun e' => (nomatch e')) fun e' => (nomatch e'), nbs := fun _ _ _ _ e' => (nomatch e') }
    · by_cases ji : j = i
      · subst ji
        rw [List.getElem?_set] at ej
        split at ej
        · split at ej
          · cases ej; exact ⟨_, e1, dk⟩
          · cases ej
        · rename_i k; exact absurd rfl k
      · rw [List.getElem?_set_ne (Ne.symm ji)] at ej
        obtain ⟨w', f1, f2⟩ := rep.slots j d ej
        refine ⟨w', f1, f2.keep (Ex.new g) (fun _ _ z _ => z) fun b o' ed qb => ?_⟩
        subst ed; subst qb
        have z : b ≠ a := fun z => ji (rep.sep j i o' o a ej e (z ▸ f1) e1)
        rw [upd_ne z]; exact (rep.nown ⟨j, o', ej, f1⟩).2.1
    · have f : ∀ (m : Nat) (o3 : OO), (sl.set i (some (.d (pubO o))))[m]? = some (some (.own o3)) → sl[m]? = some (some (.own o3)) := fun m o3 em => by
        by_cases mi : m = i
        · subst mi
          rw [List.getElem?_set] at em
          split at em
          · split at em <;> cases em
          · rename_i k; exact absurd rfl k
        · rw [List.getElem?_set_ne (Ne.symm mi)] at em; exact em
      exact rep.sep j k o1 o2 b (f _ _ e1') (f _ _ e2') e3 e4
    · have ne : j ≠ i := fun z => by
        subst z
        rw [List.getElem?_set] at e1'
        split at e1'
        · split at e1' <;> cases e1'
        · rename_i k; exact absurd rfl k
      rw [List.getElem?_set_ne (Ne.symm ne)] at e1'
      exact rep.bor j o1 b e1' e2' (others b z).1
    · by_cases ne : j = i
      · subst ne
        rw [List.getElem?_set] at z
        split at z
        · split at z <;> cases z
        · rename_i k; exact absurd rfl k
      · rw [List.getElem?_set_ne (Ne.symm ne)] at z
        exact rep.nse j o1 z
    · have z : b ≠ a := fun z => w ⟨i, o, e, z ▸ e1⟩
      rw [upd_ne z]; exact g1
    · by_cases ne : j = i
      · subst ne
        rw [List.getElem?_set] at z
        split at z
        · split at z <;> cases z
        · rename_i k; exact absurd rfl k
      · rw [List.getElem?_set_ne (Ne.symm ne)] at z
        exact ⟨o1, z⟩
  · rename_i dv no e
    obtain ⟨v, e1, w⟩ := rep.slots i _ e
    exact ⟨v, e1, hq v H G dv sl (.here rep w (fun o z => no o z) fun a o z z2 => by subst z; subst z2; exact rep.bor i o a e e1) q⟩
  · exact q.elim
theorem de_see {i : Nat} {n : Str} {pos : Pos} (h : PE X (.Name n pos) (tVar i)) : DE X W (.Name n pos) (dSee i) := pe_imp h fun σ H R ⟨G, so, sl, Q, E, rep, q, hq, _⟩ => by
  unfold dSee at q
  split at q
  · rename_i o e
    obtain ⟨v, e1, w⟩ := rep.slots i _ e
    exact ⟨v, e1, hq v H G _ sl (.here rep w.see (fun _ z => (nomatch z)) fun _ _ z => (nomatch z)) q⟩
  · rename_i dv no e
    obtain ⟨v, e1, w⟩ := rep.slots i _ e
    exact ⟨v, e1, hq v H G dv sl (.here rep w (fun o z => no o z) fun a o z z2 => by subst z; subst z2; exact rep.bor i o a e e1) q⟩
  · exact q.elim
end

/-! ### operations on values -/
def OpSem (K : PySem.W.Frag) (r : R2) (rd : DV → DV → (DV → Prop) → Prop) : Prop := ∀ (G : Hp) (so : Option Addr) (H : Hp) (x y : V) (dx dy : DV) (Q : DV → Prop) (R : VK), HRep K G so H → VOk K G so H x dx → VOk K G so H y dy → rd dx dy Q →
  (∀ v H' G' dv, PostV K G so H v H' G' dv → Q dv → R v H') → r x y H R
def UnSem (K : PySem.W.Frag) (r : V → Hp → VK → Prop) (rd : DV → (DV → Prop) → Prop) : Prop := ∀ (G : Hp) (so : Option Addr) (H : Hp) (x : V) (dx : DV) (Q : DV → Prop) (R : VK), HRep K G so H → VOk K G so H x dx → rd dx Q →
  (∀ v H' G' dv, PostV K G so H v H' G' dv → Q dv → R v H') → r x H R
def CallSem (K : PySem.W.Frag) (r : List V → Hp → VK → Prop) (rd : List DV → (DV → Prop) → Prop) : Prop := ∀ (G : Hp) (so : Option Addr) (H : Hp) (xs : List V) (dxs : List DV) (Q : DV → Prop) (R : VK), HRep K G so H → VsOk K G so H xs dxs → rd dxs Q →
  (∀ v H' G' dv, PostV K G so H v H' G' dv → Q dv → R v H') → r xs H R
def dOp (rd : DV → DV → (DV → Prop) → Prop) (ta tb : TD) : TD := fun sl Q E => ta sl (fun x s1 => tb s1 (fun y s2 => rd x y fun z => Q z s2) E) E
def dUn (rd : DV → (DV → Prop) → Prop) (ta : TD) : TD := fun sl Q E => ta sl (fun x s1 => rd x fun z => Q z s1) E
def dCB (rd : List DV → (DV → Prop) → Prop) (ta : TDA) : TD := fun sl Q E => ta sl (fun xs s1 => rd xs fun z => Q z s1) E
def dNil : TDA := fun sl Q _ => Q [] sl
def dCons (ta : TD) (tr : TDA) : TDA := fun sl Q E => ta sl (fun x s1 => tr s1 (fun xs s2 => Q (pubV x :: xs) s2) E) E
section
variable {K : PySem.W.Frag} {W : WX} {σ : L2.St} {H : Hp} {R : VK} {ta tb : TD} {X : Cx} {a b e : Expr} {pos : Pos}
theorem up_op {r : R2} {rd : DV → DV → (DV → Prop) → Prop} (hr : OpSem K r rd) (h : up K W (dOp rd ta tb) σ H R) : tOp r (up K W ta) (up K W tb) σ H R := by
  obtain ⟨G, so, sl, Q, E, rep, q, hq, hx⟩ := h
  refine ⟨G, so, sl, _, E, rep, q, fun x H1 G1 dx s1 p1 h1 => ?_, hx⟩
  refine ⟨G1, so, s1, _, E, p1.rep, h1, fun y H2 G2 dy s2 p2 h2 => ?_, hx.step p1.toPost⟩
  exact hr G2 so H2 x y dx dy _ R p2.rep.h (p1.over p2.toPost) p2.val h2 fun v H' G' dv pv hz => hq v H' G' dv s2 ((p1.toPost.trans p2.toPost).thenV pv) hz
theorem up_un {r : V → Hp → VK → Prop} {rd : DV → (DV → Prop) → Prop} (hr : UnSem K r rd) (h : up K W (dUn rd ta) σ H R) : tUn r (up K W ta) σ H R := by
  obtain ⟨G, so, sl, Q, E, rep, q, hq, hx⟩ := h
  refine ⟨G, so, sl, _, E, rep, q, fun x H1 G1 dx s1 p1 h1 => ?_, hx⟩
  exact hr G1 so H1 x dx _ R p1.rep.h p1.val h1 fun v H' G' dv pv hz => hq v H' G' dv s1 (p1.toPost.thenV pv) hz
theorem up_cb {r : List V → Hp → VK → Prop} {rd : List DV → (DV → Prop) → Prop} {t : TDA} (hr : CallSem K r rd) (h : up K W (dCB rd t) σ H R) : tCB r (upA K W t) σ H R := by
  obtain ⟨G, so, sl, Q, E, rep, q, hq, hx⟩ := h
  refine ⟨G, so, sl, _, E, rep, q, fun vs H1 G1 ds s1 p1 w h1 => ?_, hx⟩
  exact hr G1 so H1 vs ds _ R p1.rep.h w h1 fun v H' G' dv pv hz => hq v H' G' dv s1 (p1.thenV pv) hz
theorem da_nil : DA X W [] dNil := pa_imp pa_nil fun σ H R ⟨G, so, sl, Q, E, rep, q, hq, _⟩ => hq [] H G [] sl (.refl rep) .nil q
theorem da_cons {es : List Expr} {tr : TDA} (ha : DE X W e ta) (hr : DA X W es tr) (hs : starEach (e :: es) X.env = (false, eval e X.env) :: starEach es X.env := by rfl) : DA X W (e :: es) (dCons ta tr) := by
  refine pa_imp (pa_cons ha hr hs) fun σ H R ⟨G, so, sl, Q, E, rep, q, hq, hx⟩ => ?_
  refine ⟨G, so, sl, _, E, rep, q, fun x H1 G1 dx s1 p1 h1 => ?_, hx⟩
  obtain ⟨G1', p1'⟩ := p1.pub
  refine ⟨G1', so, s1, _, E, p1'.rep, h1, fun vs H2 G2 ds s2 p2 w h2 => ?_, hx.step p1'.toPost⟩
  exact hq (x :: vs) H2 G2 (pubV dx :: ds) s2 (p1'.toPost.trans p2) (.cons (p1'.over p2) (pubV_not dx) w) h2
theorem de_op {op : Operator} {r : R2} {rd : DV → DV → (DV → Prop) → Prop} (ho : OpR X (binaryOp op) r) (hr : OpSem X.K r rd) (ha : DE X W a ta) (hb : DE X W b tb) : DE X W (.BinOp a op b pos) (dOp rd ta tb) := pe_imp (pe_op ho ha hb) fun _ _ _ h => up_op hr h
theorem de_un {op : UnaryOp} {r : V → Hp → VK → Prop} {rd : DV → (DV → Prop) → Prop} (ho : UnR X (unaryOp op) r) (hr : UnSem X.K r rd) (ha : DE X W a ta) : DE X W (.UnaryOp op a pos) (dUn rd ta) := pe_imp (pe_un ho ha) fun _ _ _ h => up_un hr h
theorem de_cmp {op : CmpOp} {r : R2} {rd : DV → DV → (DV → Prop) → Prop} (ho : OpR X (compareOp op) r) (hr : OpSem X.K r rd) (ha : DE X W a ta) (hb : DE X W b tb) (hm : behindInMarks op b = false) : DE X W (.Compare a [op] [b] pos) (dOp rd ta tb) := pe_imp (pe_cmpR ho ha hb hm) fun _ _ _ h => up_op hr h
theorem de_ix {r : R2} {rd : DV → DV → (DV → Prop) → Prop} (ho : IxR X r) (hr : OpSem X.K r rd) (ha : DE X W a ta) (hb : DE X W b tb) (hs : PlainIx b) : DE X W (.Subscript a b pos) (dOp rd ta tb) := pe_imp (pe_ix ho ha hb hs) fun _ _ _ h => up_op hr h
end
end DL

set_option Elab.async false
set_option linter.all false
set_option maxRecDepth 100000
set_option autoImplicit false
set_option maxHeartbeats 2000000
namespace DL
open PySem PySem.Spec PyProof.Rows L2

/-! ### trees as plain data -/
mutual
def D.py : D → Option PyData
  | .non => some .none
  | .bl b => some (.bool b)
  | .int i => some (.int i)
  | .str x => some (.str x)
  | .lst ds => (D.pyAll ds).map .list
  | .tup ds => (D.pyAll ds).map .tuple
  | .ins _ _ => none
  | .raw _ => none
def D.pyAll : List D → Option (List PyData)
  | [] => some []
  | d :: r => match D.py d, D.pyAll r with
    | some p, some ps => some (p :: ps)
    | _, _ => none
end
/-- a value as a tree -/
def DV.dat : DV → Option D
  | .d x => some x
  | .own o => some (pubO o)
  | .bor o => some (pubO o)
  | .see o => some (pubO o)
  | .src => none
def DV.items : DV → Option (List D)
  | .d (.lst ds) => some ds
  | .own (.lst ds) => some ds
  | .bor (.lst ds) => some ds
  | .see (.lst ds) => some ds
  | _ => none

section
variable {K : PySem.W.Frag} {G H : Hp} {so : Option Addr} {v x y : V} {dv dx dy : DV}
mutual
theorem DOk.dp (e : Ex G H) : ∀ (d : D) (v : V) (p : PyData), DOk K G v d → d.py = some p → Dp K H v p
  | .non, _, _, h, q => by cases h; cases q; exact .non
  | .bl b, _, _, h, q => by cases h; cases q; exact .bl b
  | .int i, _, _, h, q => by cases h; cases q; exact .int i
  | .str x, _, _, h, q => by cases h; cases q; exact .str x
  | .lst ds, _, p, h, q => by
    unfold D.py at q
    cases z : D.pyAll ds with
    | none => rw [z] at q; cases q
    | some ps =>
      rw [z] at q; cases q
      cases h with
      | lst g a => exact .lst (SqL.of (e _ _ g)) (DAll.dp e ds _ ps a z)
  | .tup ds, _, p, h, q => by
    unfold D.py at q
    cases z : D.pyAll ds with
    | none => rw [z] at q; cases q
    | some ps =>
      rw [z] at q; cases q
      cases h with
      | tup g a => exact .tup (ex_t e g) (DAll.dp e ds _ ps a z)
  | .ins _ _, _, _, _, q => by cases q
  | .raw _, _, _, _, q => by cases q
theorem DAll.dp (e : Ex G H) : ∀ (ds : List D) (vs : List V) (ps : List PyData), DAll K G vs ds → D.pyAll ds = some ps → DpAll K H vs ps
  | [], _, _, h, q => by cases h; cases q; exact .nil
  | d :: r, _, ps, h, q => by
    cases h with
    | cons h1 h2 =>
      unfold D.pyAll at q
      cases z1 : D.py d with
      | none => rw [z1] at q; cases q
      | some p =>
        cases z2 : D.pyAll r with
        | none => rw [z1, z2] at q; cases q
        | some qs =>
          rw [z1, z2] at q; cases q
          exact .cons (DOk.dp e d _ p h1 z1) (DAll.dp e r _ qs h2 z2)
end
theorem VOk.dp {d : D} {p : PyData} (h : HRep K G so H) (w : VOk K G so H v dv) (e : dv.dat = some d) (q : d.py = some p) : Dp K H v p := by
  cases dv with
  | d z => cases e; exact DOk.dp h.ex _ _ _ w q
  | src => cases e
  | own o =>
    cases e
    obtain ⟨a, rfl, _, _, ok⟩ := w
    cases o with
    | lst ds =>
      obtain ⟨vs, e1, al⟩ := ok
      unfold pubO D.py at q
      cases z : D.pyAll ds with
      | none => rw [z] at q; cases q
      | some ps => rw [z] at q; cases q; exact .lst (SqL.of e1) (DAll.dp h.ex ds _ ps al z)
  | bor o =>
    cases e
    obtain ⟨a, rfl, _, ok⟩ := w
    cases o with
    | lst ds =>
      obtain ⟨vs, e1, al⟩ := ok
      unfold pubO D.py at q
      cases z : D.pyAll ds with
      | none => rw [z] at q; cases q
      | some ps => rw [z] at q; cases q; exact .lst (SqL.of e1) (DAll.dp h.ex ds _ ps al z)
  | see o =>
    cases e
    obtain ⟨a, rfl, _, ok⟩ := w
    cases o with
    | lst ds =>
      obtain ⟨vs, e1, al⟩ := ok
      unfold pubO D.py at q
      cases z : D.pyAll ds with
      | none => rw [z] at q; cases q
      | some ps => rw [z] at q; cases q; exact .lst (SqL.of e1) (DAll.dp h.ex ds _ ps al z)
theorem VOk.list {ds : List D} (h : HRep K G so H) (w : VOk K G so H v dv) (e : dv.items = some ds) : ∃ a vs, v = .ref a ∧ H a = some (.lst vs) ∧ DAll K G vs ds := by
  unfold DV.items at e
  split at e
  · cases e
    cases w with
    | lst g a => exact ⟨_, _, rfl, h.ex _ _ g, a⟩
  · cases e
    obtain ⟨a, rfl, _, _, vs, e1, al⟩ := w
    exact ⟨a, vs, rfl, e1, al⟩
  · cases e
    obtain ⟨a, rfl, _, vs, e1, al⟩ := w
    exact ⟨a, vs, rfl, e1, al⟩
  · cases e
    obtain ⟨a, rfl, _, vs, e1, al⟩ := w
    exact ⟨a, vs, rfl, e1, al⟩
  · cases e
theorem VOk.tup {ds : List D} (h : HRep K G so H) (w : VOk K G so H v (.d (.tup ds))) : ∃ a vs, v = .ref a ∧ SqT K H a vs ∧ DAll K G vs ds := by
  cases w with
  | tup g a => exact ⟨_, _, rfl, ex_t h.ex g, a⟩
end

/-! ### arithmetic -/
abbrev szl : Nat := 16777216
theorem szl_eq : szl = sizeLine := by rw [sizeLine_eq]
@[irreducible] def addR : DV → DV → (DV → Prop) → Prop
  | .d (.int i), .d (.int j), Q => Q (.d (.int (i + j)))
  | .d (.str a), .d (.str b), Q => a.length + b.length ≤ szl ∧ Q (.d (.str (a ++ b)))
  | .d (.tup a), .d (.tup b), Q => a.length + b.length ≤ szl ∧ Q (.d (.tup (a ++ b)))
  | x, y, Q => match x.items, y.items with
    | some a, some b => a.length + b.length ≤ szl ∧ Q (.own (.lst (a ++ b)))
    | _, _ => False
@[irreducible] def intR (C : Int → Int → Prop) (f : Int → Int → D) : DV → DV → (DV → Prop) → Prop
  | .d (.int i), .d (.int j), Q => C i j ∧ Q (.d (f i j))
  | _, _, _ => False
@[irreducible] def intR0 (f : Int → Int → D) : DV → DV → (DV → Prop) → Prop
  | .d (.int i), .d (.int j), Q => Q (.d (f i j))
  | _, _, _ => False
@[irreducible] def negR : DV → (DV → Prop) → Prop
  | .d (.int i), Q => Q (.d (.int (-i)))
  | _, _ => False
section
variable {K : PySem.W.Frag} {X : Cx} {W : WX} {a b : Expr} {ta tb : TD} {pos : Pos}
theorem sem_intR {C : Int → Int → Prop} {f : Int → Int → D} {g : Int → Int → V} (hg : ∀ G i j, DOk K G (g i j) (f i j)) : OpSem K (rI C g) (intR C f) := by
  intro G so H x y dx dy Q R h wx wy q k
  unfold intR at q
  split at q
  · cases wx; cases wy; exact ⟨_, _, rfl, rfl, q.1, k _ H G _ (.dat h (hg G _ _)) q.2⟩
  · exact q.elim
theorem sem_intR0 {f : Int → Int → D} {g : Int → Int → V} (hg : ∀ G i j, DOk K G (g i j) (f i j)) : OpSem K (rI0 g) (intR0 f) := by
  intro G so H x y dx dy Q R h wx wy q k
  unfold intR0 at q
  split at q
  · cases wx; cases wy; exact ⟨_, _, rfl, rfl, k _ H G _ (.dat h (hg G _ _)) q⟩
  · exact q.elim
def rAddS1 : R2 := fun x y H Q => ∃ i j, x = .str i ∧ y = .str j ∧ i.length + j.length ≤ sizeLine ∧ Q (.str (i ++ j)) H
def rAddAll (K : PySem.W.Frag) : R2 := fun x y H Q => (rI0 fun i j => .int (i + j)) x y H Q ∨ (rAddS1 x y H Q ∨ (rCatA K x y H Q ∨ rCat x y H Q))
theorem op_addAll : OpR X (binaryOp .Add) (rAddAll X.K) := OpR.or op_add (OpR.or op_add_str (OpR.or op_catA op_cat))
theorem sem_add : OpSem K (rAddAll K) addR := by
  intro G so H x y dx dy Q R h wx wy q k
  unfold addR at q
  split at q
  · cases wx; cases wy; exact .inl ⟨_, _, rfl, rfl, k _ H G _ (.dat h (.int _)) q⟩
  · cases wx; cases wy; exact .inr (.inl ⟨_, _, rfl, rfl, by rw [← szl_eq]; exact q.1, k _ H G _ (.dat h (.str _)) q.2⟩)
  · obtain ⟨a, vs, rfl, g1, a1⟩ := VOk.tup h wx
    obtain ⟨b, ws, rfl, g2, a2⟩ := VOk.tup h wy
    refine .inr (.inr (.inl ⟨a, b, vs, ws, rfl, rfl, g1, g2, ?_, fun z => ?_, fun _ z => ?_, fun _ _ p n => ?_⟩))
    · rw [a1.length, a2.length, ← szl_eq]; exact q.1
    · subst z; cases a1; exact k _ H G _ (.dat h (by have w : DOk K G _ _ := wy; simpa using w)) q.2
    · subst z; cases a2; exact k _ H G _ (.dat h (by have w : DOk K G _ _ := wx; simpa using w)) q.2
    · exact k _ _ _ _ (.tuple h n (a1.append a2)) q.2
  · split at q
    · rename_i e1 e2
      obtain ⟨a, vs, rfl, g1, a1⟩ := VOk.list h wx e1
      obtain ⟨b, ws, rfl, g2, a2⟩ := VOk.list h wy e2
      refine .inr (.inr (.inr ⟨a, b, vs, ws, rfl, rfl, g1, g2, ?_, fun p n => ?_⟩))
      · rw [a1.length, a2.length, ← szl_eq]; exact q.1
      · exact k _ _ _ _ (.list h n (a1.append a2)) q.2
    · exact q.elim
theorem de_add (ha : DE X W a ta) (hb : DE X W b tb) : DE X W (.BinOp a .Add b pos) (dOp addR ta tb) := de_op op_addAll sem_add ha hb
theorem de_sub (ha : DE X W a ta) (hb : DE X W b tb) : DE X W (.BinOp a .Sub b pos) (dOp (intR0 fun i j => .int (i - j)) ta tb) := de_op op_sub (sem_intR0 fun _ _ _ => .int _) ha hb
theorem de_mod (ha : DE X W a ta) (hb : DE X W b tb) : DE X W (.BinOp a .Mod b pos) (dOp (intR (fun _ j => 0 < j) fun i j => .int (i % j)) ta tb) := de_op op_mod (sem_intR fun _ _ _ => .int _) ha hb
theorem de_fdiv (ha : DE X W a ta) (hb : DE X W b tb) : DE X W (.BinOp a .FloorDiv b pos) (dOp (intR CDivW fun i j => .int (i / j)) ta tb) := de_op op_fdivW (sem_intR fun _ _ _ => .int _) ha hb
theorem de_pow (ha : DE X W a ta) (hb : DE X W b tb) : DE X W (.BinOp a .Pow b pos) (dOp (intR CPow fun i j => .int (i ^ j.toNat)) ta tb) := de_op op_pow (sem_intR fun _ _ _ => .int _) ha hb
theorem sem_neg : UnSem K (rU fun i => .int (-i)) negR := by
  intro G so H x dx Q R h wx q k
  unfold negR at q
  split at q
  · cases wx; exact ⟨_, rfl, k _ H G _ (.dat h (.int _)) q⟩
  · exact q.elim
theorem de_neg (ha : DE X W a ta) : DE X W (.UnaryOp .USub a pos) (dUn negR ta) := de_un un_neg sem_neg ha

/-! ### * : ints, a list some times -/
@[irreducible] def mulR : DV → DV → (DV → Prop) → Prop
  | .d (.int i), .d (.int j), Q => CMulW i j ∧ Q (.d (.int (i * j)))
  | x, .d (.int k), Q => match x.items with
    | some a => -(2 ^ 63) ≤ k ∧ k < 2 ^ 63 ∧ a.length * k.toNat ≤ szl ∧ Q (.own (.lst (List.replicate k.toNat a).flatten))
    | _ => False
  | _, _, _ => False
/-! ### comparisons -/
@[irreducible] def eqDeep (neg : Bool) : DV → DV → (DV → Prop) → Prop := fun x y Q => match x.dat, y.dat with
  | some a, some b => match a.py, b.py with
    | some p, some q => SeqAt.shaped p = true ∧ SeqAt.shaped q = true ∧ Q (.d (.bl (if neg then !PyData.eqv p q else PyData.eqv p q)))
    | _, _ => False
  | _, _ => False
@[irreducible] def eqR (neg : Bool) : DV → DV → (DV → Prop) → Prop
  | .d (.int i), .d (.int j), Q => Q (.d (.bl (if neg then !decide (i = j) else decide (i = j))))
  | .d (.str i), .d (.str j), Q => Q (.d (.bl (if neg then !decide (i = j) else decide (i = j))))
  | .d (.bl i), .d (.bl j), Q => Q (.d (.bl (if neg then !decide (i = j) else decide (i = j))))
  | x, y, Q => eqDeep neg x y Q
def rEqAll (K : PySem.W.Frag) : R2 := fun x y H Q => rEq x y H Q ∨ rEqD K x y H Q
def rNeAll (K : PySem.W.Frag) : R2 := fun x y H Q => rNe x y H Q ∨ rNeD K x y H Q
theorem op_eqAll (hu : X.A.units + 64 < cLine) : OpR X (compareOp .Eq) (rEqAll X.K) := OpR.or op_eq (op_eqD hu)
theorem op_neAll (hu : X.A.units + 64 < cLine) : OpR X (compareOp .NotEq) (rNeAll X.K) := OpR.or op_ne (op_neD hu)
theorem decI {i j : Int} : decide (V.int i = V.int j) = decide (i = j) := by
  by_cases h : i = j
  · subst h; simp
  · simp [h]
theorem decS {i j : Str} : decide (V.str i = V.str j) = decide (i = j) := by
  by_cases h : i = j
  · subst h; simp
  · simp [h]
theorem decB {i j : Bool} : decide (V.bl i = V.bl j) = decide (i = j) := by
  by_cases h : i = j
  · subst h; simp
  · simp [h]
theorem sem_eq : OpSem K (rEqAll K) (eqR false) := by
  intro G so H x y dx dy Q R h wx wy q k
  unfold eqR at q
  split at q
  · cases wx; cases wy
    exact .inl ⟨rfl, by rw [decI]; exact k _ H G _ (.dat h (.bl _)) q⟩
  · cases wx; cases wy
    exact .inl ⟨rfl, by rw [decS]; exact k _ H G _ (.dat h (.bl _)) q⟩
  · cases wx; cases wy
    exact .inl ⟨rfl, by rw [decB]; exact k _ H G _ (.dat h (.bl _)) q⟩
  · unfold eqDeep at q
    split at q
    · rename_i d e e1 e2
      split at q
      · rename_i p p' e3 e4
        exact .inr ⟨p, p', wx.dp h e1 e3, wy.dp h e2 e4, q.1, q.2.1, k _ H G _ (.dat h (.bl _)) q.2.2⟩
      · exact q.elim
    · exact q.elim
theorem sem_ne : OpSem K (rNeAll K) (eqR true) := by
  intro G so H x y dx dy Q R h wx wy q k
  unfold eqR at q
  split at q
  · cases wx; cases wy
    exact .inl ⟨rfl, by rw [decI]; exact k _ H G _ (.dat h (.bl _)) q⟩
  · cases wx; cases wy
    exact .inl ⟨rfl, by rw [decS]; exact k _ H G _ (.dat h (.bl _)) q⟩
  · cases wx; cases wy
    exact .inl ⟨rfl, by rw [decB]; exact k _ H G _ (.dat h (.bl _)) q⟩
  · unfold eqDeep at q
    split at q
    · rename_i d e e1 e2
      split at q
      · rename_i p p' e3 e4
        exact .inr ⟨p, p', wx.dp h e1 e3, wy.dp h e2 e4, q.1, q.2.1, k _ H G _ (.dat h (.bl _)) q.2.2⟩
      · exact q.elim
    · exact q.elim
end
end DL

set_option Elab.async false
set_option linter.all false
set_option maxRecDepth 100000
set_option autoImplicit false
set_option maxHeartbeats 2000000
namespace DL
open PySem PySem.Spec PyProof.Rows L2

/-- both ways of a test -/
@[irreducible] def Br (b : Bool) (A B : Prop) : Prop := (b = true → A) ∧ (b = false → B)

theorem brt {A B : Prop} (h : Br true A B) : A := by
  unfold Br at h; exact h.1 rfl
theorem brf {A B : Prop} (h : Br false A B) : B := by
  unfold Br at h; exact h.2 rfl
theorem br {b : Bool} {A B : Prop} (h1 : b = true → A) (h2 : b = false → B) : Br b A B := by
  unfold Br; exact ⟨h1, h2⟩
theorem brT {A B : Prop} (h : A) : Br true A B := br (fun _ => h) fun z => (nomatch z)
theorem brF {A B : Prop} (h : B) : Br false A B := br (fun z => (nomatch z)) fun _ => h

/-! ### statements: the slots may change -/
structure PostS (K : PySem.W.Frag) (G : Hp) (so : Option Addr) (σ : L2.St) (H : Hp) (sl : DSt) (σ' : L2.St) (H' G' : Hp) (sl' : DSt) : Prop where
  ex : Ex G G'
  rep : Rep K G' so σ' H' sl'
  keep : ∀ a o, H a = some o → so ≠ some a → ¬ Own sl σ a → H' a = some o
  frm : ∀ a, H a ≠ none → G a = none → so ≠ some a → ¬ Own sl σ a → G' a = none
  sub : ∀ a, H a ≠ none → so ≠ some a → ¬ Own sl σ a → ¬ Own sl' σ' a
  ln : σ'.length = σ.length
structure PostR (K : PySem.W.Frag) (G : Hp) (so : Option Addr) (σ : L2.St) (H : Hp) (sl : DSt) (v : V) (H' G' : Hp) (dv : DV) : Prop where
  ex : Ex G G'
  hrep : HRep K G' so H'
  keep : ∀ a o, H a = some o → so ≠ some a → ¬ Own sl σ a → H' a = some o
  frm : ∀ a, H a ≠ none → G a = none → so ≠ some a → ¬ Own sl σ a → G' a = none
  val : VOk K G' so H' v dv
  new : ∀ a o, dv = .own o → v = .ref a → H a = none ∨ Own sl σ a
def XOkS (K : PySem.W.Frag) (W : WX) (G : Hp) (so : Option Addr) (σ : L2.St) (H : Hp) (sl : DSt) (E : XP) : Prop :=
  ∀ cls d σ' H' G' fs sl', PostS K G so σ H sl σ' H' G' sl' → XdOk K G' H' d fs → E cls fs sl' → W cls d σ' H'

section
variable {K : PySem.W.Frag} {W : WX} {G G1 G2 : Hp} {so : Option Addr} {σ σ1 σ2 : L2.St} {H H1 H2 : Hp} {sl s1 s2 : DSt} {v x y : V} {dv dx dy : DV} {E : XP}
theorem Post.s (p : Post K G so σ H sl H1 G1 s1) : PostS K G so σ H sl σ H1 G1 s1 := ⟨p.ex, p.rep, fun a o e s _ => p.keep a o e s, p.frm, fun a _ _ w z => w (p.sub a z), rfl⟩
theorem PostS.refl (r : Rep K G so σ H sl) : PostS K G so σ H sl σ H G sl := (Post.refl r).s
theorem PostS.trans (a : PostS K G so σ H sl σ1 H1 G1 s1) (b : PostS K G1 so σ1 H1 s1 σ2 H2 G2 s2) : PostS K G so σ H sl σ2 H2 G2 s2 :=
  ⟨a.ex.trans b.ex, b.rep, fun c o e s w => b.keep c o (a.keep c o e s w) s (a.sub c (by rw [e]; simp) s w), fun c n g s w => by
    obtain ⟨o, e⟩ := Option.ne_none_iff_exists'.mp n
    exact b.frm c (by rw [a.keep c o e s w]; simp) (a.frm c n g s w) s (a.sub c n s w), fun c n s w => by
    obtain ⟨o, e⟩ := Option.ne_none_iff_exists'.mp n
    exact b.sub c (by rw [a.keep c o e s w]; simp) s (a.sub c n s w), b.ln.trans a.ln⟩
theorem PostS.back (a : PostS K G so σ H sl σ1 H1 G1 s1) {c : Addr} (n : H1 c = none ∨ Own s1 σ1 c) : H c = none ∨ Own sl σ c := by
  by_cases w : Own sl σ c
  · exact .inr w
  · refine .inl ?_
    cases z : H c with
    | none => rfl
    | some u =>
      by_cases s : so = some c
      · rcases n with n | n
        · exact absurd s (a.rep.h.there n)
        · exact absurd s (a.rep.nown n).2.2
      · rcases n with n | n
        · rw [a.keep c u z s w] at n; cases n
        · exact absurd n (a.sub c (by rw [z]; simp) s w)
theorem PostS.thenE (a : PostS K G so σ H sl σ1 H1 G1 s1) (b : PostE K G1 so σ1 H1 s1 v H2 G2 dv s2) : PostR K G so σ H sl v H2 G2 dv := by
  have t := a.trans b.toPost.s
  exact ⟨t.ex, t.rep.h, t.keep, t.frm, b.val, fun c o e q => a.back (b.new c o e q)⟩
theorem PostS.thenR (a : PostS K G so σ H sl σ1 H1 G1 s1) (b : PostR K G1 so σ1 H1 s1 v H2 G2 dv) : PostR K G so σ H sl v H2 G2 dv :=
  ⟨a.ex.trans b.ex, b.hrep, fun c o e s w => b.keep c o (a.keep c o e s w) s (a.sub c (by rw [e]; simp) s w), fun c n g s w => by
    obtain ⟨o, e⟩ := Option.ne_none_iff_exists'.mp n
    exact b.frm c (by rw [a.keep c o e s w]; simp) (a.frm c n g s w) s (a.sub c n s w), b.val, fun c o e q => a.back (b.new c o e q)⟩
theorem XOkS.ex (h : XOkS K W G so σ H sl E) : XOk K W G so σ H sl E := fun cls d H' G' fs sl' q a b => h cls d σ H' G' fs sl' q.s a b
theorem XOkS.step (h : XOkS K W G so σ H sl E) (p : PostS K G so σ H sl σ1 H1 G1 s1) : XOkS K W G1 so σ1 H1 s1 E := fun cls d σ' H' G' fs sl' q a b => h cls d σ' H' G' fs sl' (p.trans q) a b
end

/-- what is wanted behind a statement, below and above -/
structure EOk (K : PySem.W.Frag) (W : WX) (G : Hp) (so : Option Addr) (σ : L2.St) (H : Hp) (sl : DSt) (E : EndsD) (D : Ends) : Prop where
  nx : ∀ σ' H' G' sl', PostS K G so σ H sl σ' H' G' sl' → E.nx sl' → D.nx σ' H'
  bk : ∀ σ' H' G' sl', PostS K G so σ H sl σ' H' G' sl' → E.bk sl' → D.bk σ' H'
  ct : ∀ σ' H' G' sl', PostS K G so σ H sl σ' H' G' sl' → E.ct sl' → D.ct σ' H'
  rt : ∀ v H' G' dv, PostR K G so σ H sl v H' G' dv → E.rt dv → D.rt v H'
  xc : XOkS K W G so σ H sl E.xc
theorem EOk.step {K : PySem.W.Frag} {W : WX} {G G1 : Hp} {so : Option Addr} {σ σ1 : L2.St} {H H1 : Hp} {sl s1 : DSt} {E : EndsD} {D : Ends} (h : EOk K W G so σ H sl E D) (p : PostS K G so σ H sl σ1 H1 G1 s1) : EOk K W G1 so σ1 H1 s1 E D :=
  ⟨fun a b c d q => h.nx a b c d (p.trans q), fun a b c d q => h.bk a b c d (p.trans q), fun a b c d q => h.ct a b c d (p.trans q), fun a b c d q => h.rt a b c d (p.thenR q), h.xc.step p⟩
def upS (K : PySem.W.Frag) (W : WX) (t : TDS) : TS := fun D σ H => ∃ G so sl E, Rep K G so σ H sl ∧ t E sl ∧ EOk K W G so σ H sl E D
def DS (X : Cx) (W : WX) (st : Stmt) (t : TDS) : Prop := PS X st (upS X.K W t)
def DSs (X : Cx) (W : WX) (sts : List Stmt) (t : TDS) : Prop := PSs X sts (upS X.K W t)

def dNext : TDS := fun E sl => E.nx sl
def dSeq (t u : TDS) : TDS := fun E sl => t { E with nx := u E } sl
def dBreak : TDS := fun E sl => E.bk sl
def dCont : TDS := fun E sl => E.ct sl
def dSet (te : TD) (i : Nat) : TDS := fun E sl => te sl (fun x s1 => match x with
  | .see _ => False
  | y => E.nx (s1.set i (some y))) E.xc
def dRet (te : TD) : TDS := fun E sl => te sl (fun x _ => E.rt x) E.xc
def dRetN : TDS := fun E _ => E.rt (.d .non)
def dDrop (te : TD) : TDS := fun E sl => te sl (fun _ s1 => E.nx s1) E.xc
def dIf (c : TDT) (t u : TDS) : TDS := fun E sl => c sl (fun b s1 => Br b (t E s1) (u E s1)) E.xc
def dNever : TDS := fun _ _ => False

section
variable {X : Cx} {W : WX} {st : Stmt} {rest body orelse : List Stmt} {t u : TDS} {e c a b : Expr} {te ta tb : TD} {tc td : TDT} {pos : Pos}
theorem ds_nil : DSs X W [] dNext := pss_imp pss_nil fun D σ H ⟨G, so, sl, E, rep, q, ok⟩ => ok.nx σ H G sl (.refl rep) q
theorem ds_cons (h1 : DS X W st t) (h2 : DSs X W rest u) : DSs X W (st :: rest) (dSeq t u) := pss_imp (pss_cons h1 h2) fun D σ H ⟨G, so, sl, E, rep, q, ok⟩ =>
  ⟨G, so, sl, _, rep, q, ⟨fun σ1 H1 G1 s1 p q1 => ⟨G1, so, s1, E, p.rep, q1, ok.step p⟩, ok.bk, ok.ct, ok.rt, ok.xc⟩⟩
theorem ds_one (h1 : DS X W st t) : DSs X W [st] t := pss_one h1
theorem ds_pass : DS X W (.Pass pos) dNext := ps_imp ps_pass fun D σ H ⟨G, so, sl, E, rep, q, ok⟩ => ok.nx σ H G sl (.refl rep) q
theorem ds_break : DS X W (.Break pos) dBreak := ps_imp ps_break fun D σ H ⟨G, so, sl, E, rep, q, ok⟩ => ok.bk σ H G sl (.refl rep) q
theorem ds_continue : DS X W (.Continue pos) dCont := ps_imp ps_continue fun D σ H ⟨G, so, sl, E, rep, q, ok⟩ => ok.ct σ H G sl (.refl rep) q
theorem ds_never : DS X W st dNever := ps_imp ps_never fun D σ H ⟨G, so, sl, E, rep, q, ok⟩ => q
theorem dss_never : DSs X W rest dNever := pss_imp pss_never fun D σ H ⟨G, so, sl, E, rep, q, ok⟩ => q
theorem ds_ret (h : DE X W e te) : DS X W (.Return (some e) pos) (dRet te) := ps_imp (ps_ret h) fun D σ H ⟨G, so, sl, E, rep, q, ok⟩ =>
  ⟨G, so, sl, _, E.xc, rep, q, fun v H1 G1 dv s1 p q1 => ok.rt v H1 G1 dv ((PostS.refl rep).thenE p) q1, ok.xc.ex⟩
theorem ds_retN : DS X W (.Return none pos) dRetN := ps_imp ps_retN fun D σ H ⟨G, so, sl, E, rep, q, ok⟩ => ok.rt .non H G (.d .non) ((PostS.refl rep).thenE (.here rep .non (fun _ z => (nomatch z)) fun _ _ z => (nomatch z))) q
theorem ds_expr (h : DE X W e te) (hs : swapsWith e none pos.line X.env = pure false := by rfl) : DS X W (.Expr e pos) (dDrop te) := ps_imp (ps_expr h hs) fun D σ H ⟨G, so, sl, E, rep, q, ok⟩ =>
  ⟨G, so, sl, _, E.xc, rep, q, fun v H1 G1 dv s1 p q1 => ok.nx σ H1 G1 s1 p.toPost.s q1, ok.xc.ex⟩
theorem ds_if (hc : DT X W c tc) (h1 : DSs X W body t) (h2 : DSs X W orelse u) : DS X W (.If c body orelse pos) (dIf tc t u) := ps_imp (ps_if hc h1 h2) fun D σ H ⟨G, so, sl, E, rep, q, ok⟩ => by
  refine ⟨G, so, sl, _, E.xc, rep, q, fun k H1 G1 s1 p q1 => ?_, ok.xc.ex⟩
  cases k with
  | true => rw [if_pos rfl]; exact ⟨G1, so, s1, E, p.rep, (brt q1), ok.step p.s⟩
  | false => rw [if_neg Bool.false_ne_true]; exact ⟨G1, so, s1, E, p.rep, (brf q1), ok.step p.s⟩
end

/-! ### a slot is set -/
section
variable {K : PySem.W.Frag} {W : WX} {G G1 G2 : Hp} {so : Option Addr} {σ σ1 σ2 : L2.St} {H H1 H2 : Hp} {sl s1 s2 : DSt} {v x y : V} {dv dx dy : DV} {E : XP}
theorem get_set {α : Type} {l : List α} {i j : Nat} {x y : α} (h : (l.set i x)[j]? = some y) : (j = i ∧ y = x) ∨ (j ≠ i ∧ l[j]? = some y) := by
  by_cases ji : j = i
  · subst ji
    rw [List.getElem?_set] at h
    split at h
    · split at h
      · cases h; exact .inl ⟨rfl, rfl⟩
      · cases h
    · rename_i k; exact absurd rfl k
  · rw [List.getElem?_set_ne (Ne.symm ji)] at h
    exact .inr ⟨ji, h⟩
theorem set_slot {i : Nat} (hi : i < σ.length) (ns : ∀ o, dv ≠ .see o) (rep : Rep K G so σ H sl) (w : VOk K G so H v dv) (n : ∀ a o, dv = .own o ∨ dv = .bor o → v = .ref a → ¬ Own sl σ a) (nb : ∀ (a : Addr) (o : OO) (i' : Nat) (o' : OO), dv = .own o → v = .ref a → sl[i']? = some (some (.bor o')) → σ[i']? = some (some (.ref a)) → False) (new : ∀ a o, dv = .own o → v = .ref a → H1 a = none ∨ Own s1 σ1 a)
    (sub : ∀ a, H1 a ≠ none → so ≠ some a → ¬ Own s1 σ1 a → ¬ Own sl σ a) :
    Rep K G so (σ.set i (some v)) H (sl.set i (some dv)) ∧ ∀ a, H1 a ≠ none → so ≠ some a → ¬ Own s1 σ1 a → ¬ Own (sl.set i (some dv)) (σ.set i (some v)) a := by
  have hl : i < sl.length := by rw [rep.len]; exact hi
  have self : (σ.set i (some v))[i]? = some (some v) := List.getElem?_set_self hi
  have other : ∀ {j : Nat}, j ≠ i → (σ.set i (some v))[j]? = σ[j]? := fun ne => List.getElem?_set_ne (Ne.symm ne)
  refine ⟨⟨rep.h, by rw [List.length_set, List.length_set]; exact rep.len, fun j d q => ?_, fun j k o o' a q1 q2 q3 q4 => ?_, fun j o a q1 q2 z => ?_, fun j o z => ?_⟩, fun a n1 sa w1 z => ?_⟩
  · rcases get_set q with ⟨rfl, e⟩ | ⟨ne, e⟩
    · cases e; exact ⟨v, self, w⟩
    · obtain ⟨w', e1, e2⟩ := rep.slots j d e
      exact ⟨w', by rw [other ne]; exact e1, e2⟩
  · rcases get_set q1 with ⟨rfl, e1⟩ | ⟨ne1, e1⟩
    · cases e1
      rw [self] at q3; cases q3
      rcases get_set q2 with ⟨rfl, e2⟩ | ⟨ne2, e2⟩
      · rfl
      · rw [other ne2] at q4
        exact absurd ⟨k, o', e2, q4⟩ (n a o (.inl rfl) rfl)
    · rw [other ne1] at q3
      rcases get_set q2 with ⟨rfl, e2⟩ | ⟨ne2, e2⟩
      · cases e2
        rw [self] at q4; cases q4
        exact absurd ⟨j, o, e1, q3⟩ (n a o' (.inl rfl) rfl)
      · rw [other ne2] at q4
        exact rep.sep j k o o' a e1 e2 q3 q4
  · obtain ⟨m, o', e1, e2⟩ := z
    rcases get_set q1 with ⟨rfl, f1⟩ | ⟨ne1, f1⟩
    · cases f1
      rw [self] at q2; cases q2
      rcases get_set e1 with ⟨rfl, f2⟩ | ⟨ne2, f2⟩
      · cases f2
      · rw [other ne2] at e2
        exact n a o (.inr rfl) rfl ⟨m, o', f2, e2⟩
    · rw [other ne1] at q2
      rcases get_set e1 with ⟨rfl, f2⟩ | ⟨ne2, f2⟩
      · cases f2
        rw [self] at e2; cases e2
        exact nb a o' j o rfl rfl f1 q2
      · rw [other ne2] at e2
        exact rep.bor j o a f1 q2 ⟨m, o', f2, e2⟩
  · rcases get_set z with ⟨rfl, e⟩ | ⟨ne, e⟩
    · cases e; exact ns o rfl
    · exact rep.nse j o e
  · obtain ⟨j, o, e1, e2⟩ := z
    rcases get_set e1 with ⟨rfl, e⟩ | ⟨ne, e⟩
    · cases e
      rw [self] at e2; cases e2
      rcases new a o rfl rfl with k | k
      · exact n1 k
      · exact w1 k
    · rw [other ne] at e2
      exact sub a n1 sa w1 ⟨j, o, e, e2⟩
theorem PostE.set {i : Nat} (hi : i < σ.length) (ns : ∀ o, dv ≠ .see o) (p : PostE K G so σ H sl v H1 G1 dv s1) : PostS K G so σ H sl (σ.set i (some v)) H1 G1 (s1.set i (some dv)) := by
  have bf : ∀ (a : Addr) (o : OO) (i' : Nat) (o' : OO), dv = .own o → v = .ref a → s1[i']? = some (some (.bor o')) → σ[i']? = some (some (.ref a)) → False := fun a o i' o' e q e1 e2 => p.nbs a o i' o' e q e1 e2
  obtain ⟨r, s⟩ := set_slot (H1 := H) (s1 := sl) (σ1 := σ) hi ns p.rep p.val (fun a o e q => p.sepv a o e q) bf (fun a o e q => p.new a o e q) fun a _ _ w z => w (p.sub a z)
  exact ⟨p.ex, r, fun a o e sa _ => p.keep a o e sa, p.frm, s, List.length_set⟩
end
section
variable {X : Cx} {W : WX} {e : Expr} {te : TD} {pos pos' : Pos} {i : Nat} {x : Str}
theorem up_set {K : PySem.W.Frag} {D : Ends} {σ : L2.St} {H : Hp} (hi : ∀ {G so sl}, Rep K G so σ H sl → i < σ.length) (h : upS K W (dSet te i) D σ H) : tAsg (up K W te) (gName i) D σ H := by
  obtain ⟨G, so, sl, E, rep, q, ok⟩ := h
  refine ⟨G, so, sl, _, E.xc, rep, q, fun v H1 G1 dv s1 p q1 => ?_, ok.xc.ex⟩
  split at q1
  · exact q1.elim
  · rename_i ns
    exact ok.nx _ H1 G1 _ (p.set (hi rep) fun o z => ns o z) q1
/-- the slots are as many as the names -/
theorem ps_len {st : Stmt} {t t' : TS} (h : PS X st t) (f : ∀ D σ H, σ.length = X.N.length → t' D σ H → t D σ H) : PS X st t' := ⟨fun pins s σ H Q I q => h.run pins s σ H Q I (f _ _ _ I.len q)⟩
theorem ds_set (hN : X.N.Nodup) (hi : X.N[i]? = some x) (hx : Loc X.env.scope x) (he : DE X W e te) (hs : swapsWith e (some (.Name x pos')) pos.line X.env = pure false := by rfl) (hf : X.fn x = true ∨ X.env.scope.names.lookup x = some .local := by first | exact .inl rfl | exact .inr rfl | assumption) :
    DS X W (.Assign [.Name x pos'] e pos) (dSet te i) := ps_len (ps_set hN hi hx he hs hf) fun D σ H hl h => up_set (fun _ => by rw [hl]; exact (List.getElem?_eq_some_iff.mp hi).1) h
end
end DL

set_option Elab.async false
set_option linter.all false
set_option maxRecDepth 100000
set_option autoImplicit false
set_option maxHeartbeats 2000000
namespace DL
open PySem PySem.Spec PyProof.Rows L2

/-! ### tests -/
@[irreducible] def truR : DV → (Bool → Prop) → Prop
  | .d (.bl b), Q => Q b
  | .d .non, Q => Q false
  | .d (.int i), Q => Q (i != 0)
  | .d (.str x), Q => x.length ≤ szl ∧ Q ((x.length : Int) != 0)
  | .d (.tup ds), Q => Q (!ds.isEmpty)
  | v, Q => match v.items with
    | some ds => Q (!ds.isEmpty)
    | none => False
def dTru (te : TD) : TDT := fun sl Q E => te sl (fun x s1 => truR x fun b => Q b s1) E
def dTest (te : TD) : TDT := fun sl Q E => te sl (fun x s1 => match x with
  | .d (.bl b) => Q b s1
  | _ => False) E
def dAnd (t u : TDT) : TDT := fun sl Q E => t sl (fun b s1 => Br b (u s1 Q E) (Q false s1)) E
def dOr (t u : TDT) : TDT := fun sl Q E => t sl (fun b s1 => Br b (Q true s1) (u s1 Q E)) E
def dNot (t : TDT) : TDT := fun sl Q E => t sl (fun b s1 => Q (!b) s1) E
def dIfE (t : TDT) (ta tb : TD) : TD := fun sl Q E => t sl (fun b s1 => Br b (ta s1 Q E) (tb s1 Q E)) E
def dAndV (ta tb : TD) : TD := fun sl Q E => ta sl (fun x s1 => match x with
  | .d (.bl b) => Br b (tb s1 Q E) (Q (.d (.bl false)) s1)
  | _ => False) E
def dOrV (ta tb : TD) : TD := fun sl Q E => ta sl (fun x s1 => match x with
  | .d (.bl b) => Br b (Q (.d (.bl true)) s1) (tb s1 Q E)
  | _ => False) E
def dNotV (ta : TD) : TD := fun sl Q E => ta sl (fun x s1 => truR x fun b => Q (.d (.bl (!b))) s1) E
theorem isEmpty_all {K : PySem.W.Frag} {G : Hp} {vs : List V} {ds : List D} (a : DAll K G vs ds) : vs.isEmpty = ds.isEmpty := by
  cases a <;> rfl
theorem tru_ok {K : PySem.W.Frag} {G : Hp} {so : Option Addr} {H : Hp} {v : V} {dv : DV} {Q : Bool → Prop} (h : HRep K G so H) (w : VOk K G so H v dv) (q : truR dv Q) : ∃ k, TruV K v H k ∧ Q k := by
  unfold truR at q
  split at q
  · cases w; exact ⟨_, rfl, q⟩
  · cases w; exact ⟨_, rfl, q⟩
  · cases w; exact ⟨_, rfl, q⟩
  · cases w; exact ⟨_, ⟨by rw [← szl_eq]; exact q.1, rfl⟩, q.2⟩
  · obtain ⟨a, vs, rfl, g1, a1⟩ := VOk.tup h w
    exact ⟨_, .inr (.inl ⟨vs, g1, rfl⟩), by rw [isEmpty_all a1]; exact q⟩
  · split at q
    · rename_i e
      obtain ⟨a, vs, rfl, g1, a1⟩ := VOk.list h w e
      exact ⟨_, .inl ⟨vs, SqL.of g1, rfl⟩, by rw [isEmpty_all a1]; exact q⟩
    · exact q.elim

section
variable {X : Cx} {W : WX} {e c a b : Expr} {rest : List Expr} {te ta tb tc : TD} {t u : TDT} {pos : Pos} {K : PySem.W.Frag} {σ : L2.St} {H : Hp}
theorem dt_val (h : DE X W e te) (he : ∀ whole, isTrue e X.env whole = (do let v ← whole; standAt e.pos; holding [v] (truthy v)) := by intro _; rfl) : DT X W e (dTru te) :=
  pt_imp (pt_truth h he) fun σ H R ⟨G, so, sl, Q, E, rep, q, hq, hx⟩ => ⟨G, so, sl, _, E, rep, q, fun v H1 G1 dv s1 p q1 => by
    obtain ⟨k, tv, qk⟩ := tru_ok p.rep.h p.val q1
    exact ⟨k, tv, hq k H1 G1 s1 p.toPost qk⟩, hx⟩
theorem up_test {te : TD} {R : Bool → Hp → Prop} (h : upT K W (dTest te) σ H R) : tTest (up K W te) σ H R := by
  obtain ⟨G, so, sl, Q, E, rep, q, hq, hx⟩ := h
  refine ⟨G, so, sl, _, E, rep, q, fun v H1 G1 dv s1 p q1 => ?_, hx⟩
  split at q1
  · have w := p.val
    cases w
    exact ⟨_, rfl, hq _ H1 G1 s1 p.toPost q1⟩
  · exact q1.elim
theorem up_test' {tE : TE} {te : TD} {R : Bool → Hp → Prop} (f : ∀ R, up K W te σ H R → tE σ H R) (h : upT K W (dTest te) σ H R) : tTest tE σ H R := f _ (up_test h)
theorem dt_cmp {op : CmpOp} {r : R2} {rd : DV → DV → (DV → Prop) → Prop} (ho : OpR X (compareOp op) r) (hr : OpSem X.K r rd) (ha : DE X W a ta) (hb : DE X W b tb) (hm : behindInMarks op b = false) : DT X W (.Compare a [op] [b] pos) (dTest (dOp rd ta tb)) :=
  pt_imp (pt_cmpR ho ha hb hm) fun _ _ _ h => up_test' (fun _ h => up_op hr h) h
/-- a op b op' c -/
def dChain (rd rd' : DV → DV → (DV → Prop) → Prop) (ta tb tc : TD) : TD := fun sl Q E => ta sl (fun x s1 => tb s1 (fun y s2 => rd x y fun z => match z with
  | .d (.bl b) => Br b (tc s2 (fun w s3 => rd' y w fun z' => Q z' s3) E) (Q (.d (.bl false)) s2)
  | _ => False) E) E
theorem PostV.nop {G G1 H1 : Hp} {so : Option Addr} {v : V} {dv : DV} {sl : DSt} (p : PostV K G so H v H1 G1 dv) (rep : Rep K G so σ H sl) : Post K G so σ H sl H1 G1 sl := (p.slots rep).toPost
theorem up_chain {r r' : R2} {rd rd' : DV → DV → (DV → Prop) → Prop} {R : VK} (hr : OpSem K r rd) (hr' : OpSem K r' rd') (h : up K W (dChain rd rd' ta tb tc) σ H R) : tChain r r' (up K W ta) (up K W tb) (up K W tc) σ H R := by
  obtain ⟨G, so, sl, Q, E, rep, q, hq, hx⟩ := h
  refine ⟨G, so, sl, _, E, rep, q, fun x H1 G1 dx s1 p1 h1 => ?_, hx⟩
  refine ⟨G1, so, s1, _, E, p1.rep, h1, fun y H2 G2 dy s2 p2 h2 => ?_, hx.step p1.toPost⟩
  have p12 := p1.toPost.trans p2.toPost
  refine hr G2 so H2 x y dx dy _ _ p2.rep.h (p1.over p2.toPost) p2.val h2 fun v H3 G3 dv pv hz => ?_
  split at hz
  · have w := pv.val
    cases w
    rename_i b
    have p3 := pv.nop p2.rep
    refine ⟨_, rfl, ?_⟩
    cases b with
    | true =>
      rw [if_pos rfl]
      refine ⟨G3, so, s2, _, E, p3.rep, (brt hz), fun w H4 G4 dw s4 p4 h4 => ?_, (hx.step p12).step p3⟩
      exact hr' G4 so H4 y w dy dw _ R p4.rep.h (p2.over (p3.trans p4.toPost)) p4.val h4 fun v' H' G' dv' pv' hz' => hq v' H' G' dv' s4 ((p12.trans (p3.trans p4.toPost)).thenV pv') hz'
    | false =>
      rw [if_neg Bool.false_ne_true]
      exact hq _ H3 G3 _ s2 (p12.thenV pv) ((brf hz))
  · exact hz.elim
theorem de_chain {op op' : CmpOp} {r r' : R2} {rd rd' : DV → DV → (DV → Prop) → Prop} (ho : OpR X (compareOp op) r) (hr : OpSem X.K r rd) (ho' : OpR X (compareOp op') r') (hr' : OpSem X.K r' rd') (ha : DE X W a ta) (hb : DE X W b tb) (hc : DE X W c tc)
    (hm : lastMarks [op, op'] [b, c] = false := by with_unfolding_all rfl) : DE X W (.Compare a [op, op'] [b, c] pos) (dChain rd rd' ta tb tc) := pe_imp (pe_chain ho ho' ha hb hc hm) fun _ _ _ h => up_chain hr hr' h
theorem dt_chain {op op' : CmpOp} {r r' : R2} {rd rd' : DV → DV → (DV → Prop) → Prop} (ho : OpR X (compareOp op) r) (hr : OpSem X.K r rd) (ho' : OpR X (compareOp op') r') (hr' : OpSem X.K r' rd') (ha : DE X W a ta) (hb : DE X W b tb) (hc : DE X W c tc)
    (hm : lastMarks [op, op'] [b, c] = false := by with_unfolding_all rfl) : DT X W (.Compare a [op, op'] [b, c] pos) (dTest (dChain rd rd' ta tb tc)) := pt_imp (pt_chain ho ho' ha hb hc hm) fun _ _ _ h => up_test' (fun _ h => up_chain hr hr' h) h
/-- and, or: a chain of tests -/
def DW (X : Cx) (W : WX) (e : Expr) (t : TDT) : Prop := PW X e (upT X.K W t)
theorem DW.dt (h : DW X W e t) : DT X W e t := PW.pt h
theorem dw_and1 (h : DT X W a t) : DW X W (.BoolOp .And [a] pos) t := pw_and1 h
theorem dw_or1 (h : DT X W a t) : DW X W (.BoolOp .Or [a] pos) t := pw_or1 h
theorem dw_and (h : DT X W a t) (h2 : DW X W (.BoolOp .And (b :: rest) pos) u) : DW X W (.BoolOp .And (a :: b :: rest) pos) (dAnd t u) := pw_imp (pw_and h h2) fun σ H R ⟨G, so, sl, Q, E, rep, q, hq, hx⟩ =>
  ⟨G, so, sl, _, E, rep, q, fun k H1 G1 s1 p q1 => by
    cases k with
    | true => rw [if_pos rfl]; exact ⟨G1, so, s1, Q, E, p.rep, (brt q1), fun k' H2 G2 s2 p2 q2 => hq k' H2 G2 s2 (p.trans p2) q2, hx.step p⟩
    | false => rw [if_neg Bool.false_ne_true]; exact hq false H1 G1 s1 p ((brf q1)), hx⟩
theorem dw_or (h : DT X W a t) (h2 : DW X W (.BoolOp .Or (b :: rest) pos) u) : DW X W (.BoolOp .Or (a :: b :: rest) pos) (dOr t u) := pw_imp (pw_or h h2) fun σ H R ⟨G, so, sl, Q, E, rep, q, hq, hx⟩ =>
  ⟨G, so, sl, _, E, rep, q, fun k H1 G1 s1 p q1 => by
    cases k with
    | true => rw [if_pos rfl]; exact hq true H1 G1 s1 p ((brt q1))
    | false => rw [if_neg Bool.false_ne_true]; exact ⟨G1, so, s1, Q, E, p.rep, (brf q1), fun k' H2 G2 s2 p2 q2 => hq k' H2 G2 s2 (p.trans p2) q2, hx.step p⟩, hx⟩
theorem dt_not (h : DT X W a t) : DT X W (.UnaryOp .Not a pos) (dNot t) := pt_imp (pt_not h) fun σ H R ⟨G, so, sl, Q, E, rep, q, hq, hx⟩ => ⟨G, so, sl, _, E, rep, q, fun k H1 G1 s1 p q1 => hq (!k) H1 G1 s1 p q1, hx⟩
theorem de_ifE (hc : DT X W c t) (ha : DE X W a ta) (hb : DE X W b tb) : DE X W (.IfExp c a b pos) (dIfE t ta tb) := pe_imp (pe_ifExp hc ha hb) fun σ H R ⟨G, so, sl, Q, E, rep, q, hq, hx⟩ =>
  ⟨G, so, sl, _, E, rep, q, fun k H1 G1 s1 p q1 => by
    cases k with
    | true => rw [if_pos rfl]; exact ⟨G1, so, s1, Q, E, p.rep, (brt q1), fun v H2 G2 dv s2 p2 q2 => hq v H2 G2 dv s2 (p.thenE p2) q2, hx.step p⟩
    | false => rw [if_neg Bool.false_ne_true]; exact ⟨G1, so, s1, Q, E, p.rep, (brf q1), fun v H2 G2 dv s2 p2 q2 => hq v H2 G2 dv s2 (p.thenE p2) q2, hx.step p⟩, hx⟩
theorem de_one {op : BoolOp} (h : DE X W a ta) : DE X W (.BoolOp op [a] pos) ta := pe_one h
theorem de_and (ha : DE X W a ta) (hb : DE X W (.BoolOp .And (b :: rest) pos) tb) : DE X W (.BoolOp .And (a :: b :: rest) pos) (dAndV ta tb) := pe_imp (pe_and ha hb) fun σ H R ⟨G, so, sl, Q, E, rep, q, hq, hx⟩ =>
  ⟨G, so, sl, _, E, rep, q, fun v H1 G1 dv s1 p q1 => by
    split at q1
    · have w := p.val
      cases w
      rename_i k
      refine ⟨_, rfl, ?_⟩
      cases k with
      | true => rw [if_pos rfl]; exact ⟨G1, so, s1, Q, E, p.rep, (brt q1), fun v H2 G2 dv s2 p2 q2 => hq v H2 G2 dv s2 (p.toPost.thenE p2) q2, hx.step p.toPost⟩
      | false => rw [if_neg Bool.false_ne_true]; exact hq _ H1 G1 _ s1 p ((brf q1))
    · exact q1.elim, hx⟩
theorem de_or (ha : DE X W a ta) (hb : DE X W (.BoolOp .Or (b :: rest) pos) tb) : DE X W (.BoolOp .Or (a :: b :: rest) pos) (dOrV ta tb) := pe_imp (pe_or ha hb) fun σ H R ⟨G, so, sl, Q, E, rep, q, hq, hx⟩ =>
  ⟨G, so, sl, _, E, rep, q, fun v H1 G1 dv s1 p q1 => by
    split at q1
    · have w := p.val
      cases w
      rename_i k
      refine ⟨_, rfl, ?_⟩
      cases k with
      | true => rw [if_pos rfl]; exact hq _ H1 G1 _ s1 p ((brt q1))
      | false => rw [if_neg Bool.false_ne_true]; exact ⟨G1, so, s1, Q, E, p.rep, (brf q1), fun v H2 G2 dv s2 p2 q2 => hq v H2 G2 dv s2 (p.toPost.thenE p2) q2, hx.step p.toPost⟩
    · exact q1.elim, hx⟩
theorem de_not (ha : DE X W a ta) : DE X W (.UnaryOp .Not a pos) (dNotV ta) := pe_imp (pe_notT ha) fun σ H R ⟨G, so, sl, Q, E, rep, q, hq, hx⟩ => ⟨G, so, sl, _, E, rep, q, fun v H1 G1 dv s1 p q1 => by
    obtain ⟨k, tv, qk⟩ := tru_ok p.rep.h p.val q1
    exact ⟨k, tv, hq _ H1 G1 _ s1 (p.toPost.thenV (.dat p.rep.h (.bl _))) qk⟩, hx⟩

/-! ### displays -/
def dats : List DV → Option (List D)
  | [] => some []
  | .d x :: r => (dats r).map (x :: ·)
  | _ => none
theorem dats_all {G : Hp} {so : Option Addr} : ∀ {vs : List V} {ds : List DV} {xs : List D}, VsOk K G so H vs ds → dats ds = some xs → DAll K G vs xs
  | _, _, _, .nil, e => by cases e; exact .nil
  | _, _, _, .cons (d := .d x) h n t, e => by
    unfold dats at e
    rename_i ds0
    cases z : dats ds0 with
    | none => rw [z] at e; cases e
    | some ys => rw [z] at e; cases e; exact .cons h (dats_all t z)
  | _, _, _, .cons (d := .src) h n t, e => by cases e
  | _, _, _, .cons (d := .own o) h n t, e => by cases e
  | _, _, _, .cons (d := .bor o) h n t, e => by cases e
  | _, _, _, .cons (d := .see o) h n t, e => by cases e
@[irreducible] def tupR (xs : List DV) (Q : DV → Prop) : Prop := match dats xs with
  | some ds => ds.length ≤ szl ∧ Q (.d (.tup ds))
  | none => False
@[irreducible] def lstR (xs : List DV) (Q : DV → Prop) : Prop := match dats xs with
  | some ds => ds.length ≤ szl ∧ Q (.own (.lst ds))
  | none => False
theorem de_tup {es : List Expr} {ta : TDA} {k : Nat} (h : DA X W es ta) : DE X W (.Tuple es k pos) (dCB tupR ta) := pe_imp (pe_tup h) fun σ H R ⟨G, so, sl, Q, E, rep, q, hq, hx⟩ =>
  ⟨G, so, sl, _, E, rep, q, fun vs H1 G1 ds s1 p w q1 => by
    unfold tupR at q1
    split at q1
    · rename_i xs e
      have a := dats_all w e
      exact ⟨by rw [a.length, ← szl_eq]; exact q1.1, fun l n => hq _ _ _ _ s1 (p.thenV (.tuple p.rep.h n a)) q1.2⟩
    · exact q1.elim, hx⟩
theorem de_lst {es : List Expr} {ta : TDA} (h : DA X W es ta) : DE X W (.List es pos) (dCB lstR ta) := pe_imp (pe_lst h) fun σ H R ⟨G, so, sl, Q, E, rep, q, hq, hx⟩ =>
  ⟨G, so, sl, _, E, rep, q, fun vs H1 G1 ds s1 p w q1 => by
    unfold lstR at q1
    split at q1
    · rename_i xs e
      have a := dats_all w e
      exact ⟨by rw [a.length, ← szl_eq]; exact q1.1, fun l n => hq _ _ _ _ s1 (p.thenV (.list p.rep.h n a)) q1.2⟩
    · exact q1.elim, hx⟩
end
end DL

set_option Elab.async false
set_option linter.all false
set_option maxRecDepth 100000
set_option autoImplicit false
set_option maxHeartbeats 2000000
namespace DL
open PySem PySem.Spec PyProof.Rows L2

/-! ### targets -/
abbrev TDG := D → DSt → (DSt → Prop) → Prop
abbrev TDGs := List D → DSt → (DSt → Prop) → Prop
def GSem (K : PySem.W.Frag) (n : Nat) (ix : List Nat) (g : TG) (gd : TDG) : Prop := ∀ (G : Hp) (so : Option Addr) (σ : L2.St) (H : Hp) (sl : DSt) (v : V) (d : D) (Q : DSt → Prop) (R : L2.St → Hp → Prop), σ.length = n → Rep K G so σ H sl → DOk K G v d → gd d sl Q →
  (∀ σ' sl', PostS K G so σ H sl σ' H G sl' → (∀ j, j ∉ ix → σ'[j]? = σ[j]? ∧ sl'[j]? = sl[j]?) → Q sl' → R σ' H) → g v σ H R
def GsSem (K : PySem.W.Frag) (n : Nat) (ix : List Nat) (g : TGs) (gd : TDGs) : Prop := ∀ (G : Hp) (so : Option Addr) (σ : L2.St) (H : Hp) (sl : DSt) (vs : List V) (ds : List D) (Q : DSt → Prop) (R : L2.St → Hp → Prop), σ.length = n → Rep K G so σ H sl → DAll K G vs ds → gd ds sl Q →
  (∀ σ' sl', PostS K G so σ H sl σ' H G sl' → (∀ j, j ∉ ix → σ'[j]? = σ[j]? ∧ sl'[j]? = sl[j]?) → Q sl' → R σ' H) → g vs σ H R
structure DG (X : Cx) (ix : List Nat) (tg : Expr) (g : TG) (gd : TDG) : Prop where
  pg : PG X tg g
  sem : GSem X.K X.N.length ix g gd
structure DGs (X : Cx) (ix : List Nat) (tg : List Expr) (g : TGs) (gd : TDGs) : Prop where
  pg : PGs X tg g
  sem : GsSem X.K X.N.length ix g gd
def gD (i : Nat) : TDG := fun d sl Q => Q (sl.set i (some (.d d)))
def gNilD : TDGs := fun ds sl Q => match ds with
  | [] => Q sl
  | _ => False
def gConsD (g : TDG) (r : TDGs) : TDGs := fun ds sl Q => match ds with
  | d :: ds' => g d sl fun s1 => r ds' s1 Q
  | [] => False
def gTupD (n : Nat) (r : TDGs) : TDG := fun d sl Q => match d with
  | .tup ds => ds.length = n ∧ r ds sl Q
  | _ => False
section
variable {X : Cx} {pos : Pos} {i : Nat} {x : Str} {ix iy : List Nat} {e : Expr} {es : List Expr} {gd : TDG} {gs : TDGs} {g1 : TG} {g2 : TGs}
theorem gsem_name {K : PySem.W.Frag} {n : Nat} (hi : i < n) : GSem K n [i] (gName i) (gD i) := by
  intro G so σ H sl v d Q R hl rep w q k
  have h0 : i < σ.length := by rw [hl]; exact hi
  refine k _ _ ((PostE.here rep (dv := .d d) w (fun _ z => (nomatch z)) fun _ _ z => (nomatch z)).set h0 fun _ z => by cases z) (fun j hj => ?_) q
  exact ⟨List.getElem?_set_ne fun z => hj (by simp [z]), List.getElem?_set_ne fun z => hj (by simp [z])⟩
theorem dg_name (hN : X.N.Nodup) (hi : X.N[i]? = some x) (hx : Loc X.env.scope x) (hf : X.fn x = true ∨ X.env.scope.names.lookup x = some .local := by first | exact .inl rfl | exact .inr rfl | assumption) : DG X [i] (.Name x pos) (gName i) (gD i) :=
  ⟨pg_name hN hi hx hf, gsem_name (List.getElem?_eq_some_iff.mp hi).1⟩
theorem dgs_nil : DGs X [] [] gNil gNilD := ⟨pgs_nil, fun G so σ H sl vs ds Q R hl rep w q k => by
  unfold gNilD at q
  split at q
  · cases w; exact ⟨rfl, k σ sl (.refl rep) (fun _ _ => ⟨rfl, rfl⟩) q⟩
  · exact q.elim⟩
theorem dgs_cons (h1 : DG X ix e g1 gd) (h2 : DGs X iy es g2 gs) (hs : (assignEach (e :: es) X.env).map (·.2) = assign e X.env :: (assignEach es X.env).map (·.2) := by rfl) : DGs X (ix ++ iy) (e :: es) (gCons g1 g2) (gConsD gd gs) := by
  obtain ⟨p1, s1⟩ := h1
  obtain ⟨p2, s2⟩ := h2
  refine ⟨pgs_cons p1 p2 hs, fun G so σ H sl vs ds Q R hl rep w q k => ?_⟩
  unfold gConsD at q
  split at q
  · cases w with
    | cons w1 w2 =>
      refine ⟨_, _, rfl, s1 G so σ H sl _ _ _ _ hl rep w1 q fun σ1 sl1 t1 u1 q1 => ?_⟩
      refine s2 G so σ1 H sl1 _ _ _ _ (t1.ln.trans hl) t1.rep w2 q1 fun σ2 sl2 t2 u2 q2 => k σ2 sl2 (t1.trans t2) (fun j hj => ?_) q2
      have v2 := u2 j fun z => hj (List.mem_append_right _ z)
      have v1 := u1 j fun z => hj (List.mem_append_left _ z)
      exact ⟨v2.1.trans v1.1, v2.2.trans v1.2⟩
  · exact q.elim
theorem dg_tup {k : Nat} {n : Nat} (hc : X.calm = true) (h : DGs X ix es g2 gs) (hn : (assignEach es X.env).length = n := by rfl) (hst : (assignEach es X.env).findIdx? (·.1) = none := by rfl) : DG X ix (.Tuple es k pos) (gTup X.K n g2) (gTupD n gs) := by
  obtain ⟨p, s⟩ := h
  refine ⟨pg_tup hc p hn hst, fun G so σ H sl v d Q R hl rep w q k => ?_⟩
  unfold gTupD at q
  split at q
  · obtain ⟨a, vs, rfl, g1, a1⟩ := VOk.tup rep.h w
    exact ⟨a, vs, rfl, g1, a1.length.trans q.1, s G so σ H sl vs _ Q R hl rep a1 q.2 k⟩
  · exact q.elim
end

/-! ### what is walked -/
abbrev TDI := DSt → (List D → DSt → Prop) → XP → Prop
def ItD (K : PySem.W.Frag) (G : Hp) (so : Option Addr) (σ : L2.St) (H : Hp) (sl : DSt) (J : It) (ds : List D) : Prop := ∃ ps : List Addr, (∀ a ∈ ps, H a ≠ none ∧ so ≠ some a ∧ ¬ Own sl σ a) ∧
  (∀ (i : Nat) H1, i < ds.length → (∀ a ∈ ps, H1 a = H a) → J.go i H1) ∧ (∀ H1, (∀ a ∈ ps, H1 a = H a) → J.stop ds.length H1) ∧
  (∀ (i : Nat) H1 x H2 G1, (∀ a ∈ ps, H1 a = H a) → Ex G G1 → HRep K G1 so H1 → J.yld i H1 x H2 → i < ds.length → ∃ d G2, ds[i]? = some d ∧ PostV K G1 so H1 x H2 G2 (.d d))
def upI (K : PySem.W.Frag) (W : WX) (t : TDI) : TI := fun σ H R => ∃ G so sl Q E, Rep K G so σ H sl ∧ t sl Q E ∧ (∀ J H' G' ds sl', Post K G so σ H sl H' G' sl' → ItD K G' so σ H' sl' J ds → Q ds sl' → R J H') ∧ XOk K W G so σ H sl E
def DI (X : Cx) (W : WX) (tg iter : Expr) (t : TDI) : Prop := PI X tg iter (upI X.K W t)
theorem pi_imp {X : Cx} {tg e : Expr} {t t' : TI} (h : PI X tg e t) (f : ∀ σ H R, t' σ H R → t σ H R) : PI X tg e t' := ⟨fun pins s σ H Q I q => h.run pins s σ H Q I (f _ _ _ q)⟩

/-- the signs of a text, one by one -/
def signs (z : Str) : List D := z.cps.toList.map fun c => .str ⟨#[c]⟩
@[irreducible] def iterR : DV → (List D → Prop) → Prop
  | .d (.tup ds), Q => Q ds
  | .d (.str z), Q => Q (signs z)
  | .see _, _ => False
  | v, Q => match v.items with
    | some ds => Q ds
    | none => False
/-- for .. in e -/
def dIter (te : TD) : TDI := fun sl Q E => te sl (fun x s1 => iterR (pubV x) fun ds => Q ds s1) E
def intsFrom (lo : Int) : Nat → List D
  | 0 => []
  | n + 1 => .int lo :: intsFrom (lo + 1) n
theorem intsFrom_len (lo : Int) (n : Nat) : (intsFrom lo n).length = n := by
  induction n generalizing lo with
  | zero => rfl
  | succ n ih => show (intsFrom (lo + 1) n).length + 1 = n + 1; rw [ih]
theorem intsFrom_get (lo : Int) (n i : Nat) (h : i < n) : (intsFrom lo n)[i]? = some (.int (lo + i)) := by
  induction n generalizing lo i with
  | zero => omega
  | succ n ih =>
    cases i with
    | zero => show some (D.int lo) = _; rw [show lo + ((0 : Nat) : Int) = lo by omega]
    | succ i => show (intsFrom (lo + 1) n)[i]? = _; rw [ih (lo + 1) i (by omega)]; congr 2; omega
/-- what a call of range, enumerate, zip walks -/
def dItA (rd : List DV → (List D → Prop) → Prop) (ta : TDA) : TDI := fun sl Q E => ta sl (fun xs s1 => rd xs fun ds => Q ds s1) E
@[irreducible] def rngR1 : List DV → (List D → Prop) → Prop
  | [.d (.int j)], Q => -(2 ^ 62) ≤ j ∧ j < 2 ^ 62 ∧ Q (intsFrom 0 j.toNat)
  | _, _ => False
@[irreducible] def rngR2 : List DV → (List D → Prop) → Prop
  | [.d (.int i), .d (.int j)], Q => (-(2 ^ 62) ≤ i ∧ i < 2 ^ 62 ∧ -(2 ^ 62) ≤ j ∧ j < 2 ^ 62) ∧ Q (intsFrom i (j - i).toNat)
  | _, _ => False
def enumFrom (i : Int) : List D → List D
  | [] => []
  | d :: r => .tup [.int i, d] :: enumFrom (i + 1) r
theorem enum_len (i : Int) (ds : List D) : (enumFrom i ds).length = ds.length := by
  induction ds generalizing i with
  | nil => rfl
  | cons d r ih => show (enumFrom (i + 1) r).length + 1 = r.length + 1; rw [ih]
theorem enum_get (i : Int) (ds : List D) (j : Nat) (d : D) (h : ds[j]? = some d) : (enumFrom i ds)[j]? = some (.tup [.int (i + j), d]) := by
  induction ds generalizing i j with
  | nil => simp at h
  | cons e r ih =>
    cases j with
    | zero => cases h; show some (D.tup [.int i, d]) = _; rw [show i + ((0 : Nat) : Int) = i by omega]
    | succ j => show (enumFrom (i + 1) r)[j]? = _; rw [ih (i + 1) j (by simpa using h)]; congr 4; omega
@[irreducible] def enumR : List DV → (List D → Prop) → Prop
  | [.see _], _ => False
  | [.bor _], _ => False
  | [v], Q => match v.items with
    | some ds => Q (enumFrom 0 ds)
    | none => False
  | _, _ => False
def zipD : List D → List D → List D
  | a :: r, b :: s => .tup [a, b] :: zipD r s
  | _, _ => []
theorem zip_len (xs ys : List D) : (zipD xs ys).length = min xs.length ys.length := by
  induction xs generalizing ys with
  | nil => cases ys <;> simp [zipD]
  | cons a r ih => cases ys with
    | nil => simp [zipD]
    | cons b s => show (zipD r s).length + 1 = _; rw [ih]; simp only [List.length_cons]; omega
theorem zip_get (xs ys : List D) (j : Nat) (a b : D) (h : xs[j]? = some a) (h' : ys[j]? = some b) : (zipD xs ys)[j]? = some (.tup [a, b]) := by
  induction xs generalizing ys j with
  | nil => simp at h
  | cons x r ih => cases ys with
    | nil => simp at h'
    | cons y s => cases j with
      | zero => cases h; cases h'; rfl
      | succ j => exact ih s j (by simpa using h) (by simpa using h')
@[irreducible] def zipR : List DV → (List D → Prop) → Prop
  | [.d (.tup xs), .d (.tup ys)], Q => Q (zipD xs ys)
  | [.d (.lst xs), .d (.lst ys)], Q => Q (zipD xs ys)
  | _, _ => False
section
variable {X : Cx} {W : WX} {tg e e2 a b : Expr} {te : TD} {ta : TDA} {pos p : Pos}
def iAny (K : PySem.W.Frag) (tl : TE) : TI := fun σ H R => tl σ H fun x H1 => (∃ a, x = .ref a ∧ (∃ xs, SqL K H1 a xs) ∧ R (Itl K a) H1) ∨ (∃ a, x = .ref a ∧ (∃ xs, SqT K H1 a xs) ∧ R (Itt K a) H1) ∨ ∃ z, x = .str z ∧ R (Its z) H1
theorem pi_any {tl : TE} (hl : PE X e tl) : PI X tg e (iAny X.K tl) := by
  refine ⟨fun pins s σ H R I h => thn (hl.run pins s σ H _ I h) fun v s1 ⟨x, H1, I1, r1, q1⟩ => ?_⟩
  rcases q1 with ⟨a, ex, ⟨xs, hq⟩, q⟩ | ⟨a, ex, ⟨xs, hq⟩, q⟩ | ⟨z, ex, q⟩
  · subst ex; cases r1
    obtain ⟨its, rv, pl, _⟩ := I1.list hq
    exact wpAny_pyIter_list pl.isList (pi_one (tk := s1.toks) I1 _ (turn_list a _) ⟨_, Heap.get?_push_size _ rfl, rfl, rfl⟩ q)
  · subst ex; cases r1
    obtain ⟨its, rv, pt, _⟩ := I1.tuple hq
    exact wpAny_pyIter_tuple (show s1.heap.IsTuple a its.toArray from pt) (pi_one (tk := s1.toks) I1 _ (turn_tuple a _) ⟨_, Heap.get?_push_size _ rfl, rfl, rfl⟩ q)
  · subst ex
    obtain ⟨t, rfl⟩ := r1
    cases ha : z.cps.all (· < 128)
    · exact wpAny_pyIter_wide ha (pi_one (tk := s1.toks) I1 _ (turn_str _ z t "str_iterator" (.inr rfl)) ⟨_, Heap.get?_push_size _ rfl, rfl, rfl⟩ q)
    · exact wpAny_pyIter_ascii ha (pi_one (tk := s1.toks) I1 _ (turn_str _ z t "str_ascii_iterator" (.inl rfl)) ⟨_, Heap.get?_push_size _ rfl, rfl, rfl⟩ q)
section
variable {K : PySem.W.Frag} {G H : Hp} {so : Option Addr} {σ : L2.St} {sl : DSt} {v w : V} {dv dw : DV}
theorem same_l {H1 : Hp} {c : Addr} {vs : List V} (h : SqL K H c vs) (e : H1 c = H c) : SqL K H1 c vs := by
  rcases h with (h | ⟨o, h⟩) | h
  · exact .inl (.inl (by rw [e]; exact h))
  · exact .inl (.inr ⟨o, by rw [e]; exact h⟩)
  · exact .inr h
theorem same_t {H1 : Hp} {c : Addr} {vs : List V} (h : SqT K H c vs) (e : H c ≠ none → H1 c = H c) : SqT K H1 c vs := by
  rcases h with (h | ⟨o, h⟩) | h
  · exact .inl (.inl (by rw [e (by rw [h]; simp)]; exact h))
  · exact .inl (.inr ⟨o, by rw [e (by rw [h]; simp)]; exact h⟩)
  · exact .inr h
/-- a list that is no slot's own: its place, what stands there -/
theorem VOk.listS {ds : List D} (rep : Rep K G so σ H sl) (w : VOk K G so H v dv) (n : ∀ o a, dv = .own o ∨ dv = .bor o → v = .ref a → ¬ Own sl σ a) (m : ∀ o, dv ≠ .see o) (e : dv.items = some ds) :
    ∃ a vs, v = .ref a ∧ H a = some (.lst vs) ∧ DAll K G vs ds ∧ H a ≠ none ∧ so ≠ some a ∧ ¬ Own sl σ a := by
  unfold DV.items at e
  split at e
  · cases e
    cases w with
    | lst g al => exact ⟨_, _, rfl, rep.h.ex _ _ g, al, by rw [rep.h.ex _ _ g]; simp, rep.h.nsrc g, fun z => by have := (rep.nown z).2.1; rw [g] at this; cases this⟩
  · cases e
    obtain ⟨c, rfl, g, s, vs, e1, al⟩ := w
    exact ⟨c, vs, rfl, e1, al, by rw [e1]; simp, s, n _ c (.inl rfl) rfl⟩
  · cases e
    obtain ⟨c, rfl, s, vs, e1, al⟩ := w
    exact ⟨c, vs, rfl, e1, al, by rw [e1]; simp, s, n _ c (.inr rfl) rfl⟩
  · exact absurd rfl (m _)
  · cases e
theorem it_list {c : Addr} {vs : List V} {ds : List D} (e : H c = some (.lst vs)) (al : DAll K G vs ds) (s : so ≠ some c) (n : ¬ Own sl σ c) : ItD K G so σ H sl (Itl K c) ds := by
  refine ⟨[c], fun a ha => ?_, fun i H1 hi k => ?_, fun H1 k => ?_, fun i H1 x H2 G1 k g h1 y hi => ?_⟩
  · obtain rfl : a = c := by simpa using ha
    exact ⟨by rw [e]; simp, s, n⟩
  · have q : H1 c = some (.lst vs) := by rw [k c (by simp)]; exact e
    have hl : i < vs.length := by rw [al.length]; exact hi
    exact ⟨vs, vs[i], SqL.of q, by simp [hl]⟩
  · have q : H1 c = some (.lst vs) := by rw [k c (by simp)]; exact e
    exact ⟨vs, SqL.of q, by rw [al.length]; exact Nat.le_refl _⟩
  · have q : H1 c = some (.lst vs) := by rw [k c (by simp)]; exact e
    obtain ⟨rfl, y⟩ := y
    obtain ⟨d, e1, e2⟩ := al.getV (y vs (SqL.of q))
    exact ⟨d, G1, e1, .dat h1 (e2.mono g)⟩
theorem it_tup {c : Addr} {vs : List V} {ds : List D} (rep : Rep K G so σ H sl) (e : SqT K G c vs) (al : DAll K G vs ds) : ItD K G so σ H sl (Itt K c) ds := by
  have kp : ∀ (H1 : Hp), (∀ a ∈ (if G c = none then [] else [c]), H1 a = H a) → SqT K H1 c vs := fun H1 k => by
    rcases e with (e | ⟨o, e⟩) | e
    · refine .inl (.inl ?_)
      rw [k c (by rw [if_neg (by rw [e]; simp)]; simp)]; exact rep.h.ex _ _ e
    · refine .inl (.inr ⟨o, ?_⟩)
      rw [k c (by rw [if_neg (by rw [e]; simp)]; simp)]; exact rep.h.ex _ _ e
    · exact .inr e
  refine ⟨if G c = none then [] else [c], fun a ha => ?_, fun i H1 hi k => ?_, fun H1 k => ?_, fun i H1 x H2 G1 k g h1 y hi => ?_⟩
  · split at ha
    · simp at ha
    · rename_i z
      obtain rfl : a = c := by simpa using ha
      obtain ⟨o, eo⟩ := Option.ne_none_iff_exists'.mp z
      exact ⟨by rw [rep.h.ex _ _ eo]; simp, rep.h.nsrc eo, fun q => z (rep.nown q).2.1⟩
  · have hl : i < vs.length := by rw [al.length]; exact hi
    exact ⟨vs, vs[i], kp H1 k, by simp [hl]⟩
  · exact ⟨vs, kp H1 k, by rw [al.length]; exact Nat.le_refl _⟩
  · obtain ⟨rfl, y⟩ := y
    obtain ⟨d, e1, e2⟩ := al.getV (y vs (kp _ k))
    exact ⟨d, G1, e1, .dat h1 (e2.mono g)⟩
theorem it_str {z : Str} : ItD K G so σ H sl (Its z) (signs z) := by
  have hl : (signs z).length = z.cps.size := by unfold signs; simp
  refine ⟨[], fun a ha => by simp at ha, fun i H1 hi k => by rw [hl] at hi; exact hi, fun H1 k => Nat.le_of_eq hl.symm, fun i H1 x H2 G1 k g h1 y hi => ?_⟩
  obtain ⟨rfl, c, e, rfl⟩ := y
  refine ⟨.str ⟨#[c]⟩, G1, ?_, .dat h1 (.str _)⟩
  unfold signs
  rw [List.getElem?_map, Array.getElem?_toList, e]; rfl
theorem it_rng {lo : Int} {n : Nat} : ItD K G so σ H sl (Itr lo n) (intsFrom lo n) := by
  have hl := intsFrom_len lo n
  refine ⟨[], fun a ha => by simp at ha, fun i H1 hi k => by rw [hl] at hi; exact hi, fun H1 k => Nat.le_of_eq hl.symm, fun i H1 x H2 G1 k g h1 y hi => ?_⟩
  obtain ⟨rfl, rfl⟩ := y
  rw [hl] at hi
  exact ⟨_, G1, intsFrom_get lo n i hi, .dat h1 (.int _)⟩
theorem it_enum {c : Addr} {vs : List V} {ds : List D} (e : H c = some (.lst vs)) (al : DAll K G vs ds) (s : so ≠ some c) (n : ¬ Own sl σ c) : ItD K G so σ H sl (Ite K c) (enumFrom 0 ds) := by
  have hl := enum_len 0 ds
  have W := walk_enum (K := K) (a := c) (xs := vs)
  refine ⟨[c], fun a ha => ?_, fun i H1 hi k => ?_, fun H1 k => ?_, fun i H1 x H2 G1 k g h1 y hi => ?_⟩
  · obtain rfl : a = c := by simpa using ha
    exact ⟨by rw [e]; simp, s, n⟩
  · exact W.goes i H1 (by rw [al.length, ← hl]; exact hi) (SqL.of (by rw [k c (by simp)]; exact e))
  · rw [hl, ← al.length]; exact W.stops H1 (SqL.of (by rw [k c (by simp)]; exact e))
  · obtain ⟨T, x1, x2, rfl, nT, rfl, f1, f2⟩ := W.yields i H1 x H2 (by rw [al.length, ← hl]; exact hi) (SqL.of (by rw [k c (by simp)]; exact e)) y
    cases f1
    obtain ⟨d, e1, e2⟩ := al.getV f2
    refine ⟨_, _, enum_get 0 ds i d e1, .tuple h1 nT (.cons ?_ (.cons (e2.mono g) .nil))⟩
    rw [show (0 : Int) + (i : Nat) = (i : Nat) by omega]; exact .int _
theorem it_zip {c c' : Addr} {vs ws : List V} {ds es : List D} (e : H c = some (.lst vs)) (al : DAll K G vs ds) (s : so ≠ some c) (n : ¬ Own sl σ c) (e' : H c' = some (.lst ws)) (al' : DAll K G ws es) (s' : so ≠ some c') (n' : ¬ Own sl σ c') : ItD K G so σ H sl (Itz K c c') (zipD ds es) := by
  have hl := zip_len ds es
  have hl2 : (zipD ds es).length = min vs.length ws.length := by rw [hl, al.length, al'.length]
  have W := walk_zip (K := K) (a := c) (b := c') (xs := vs) (ys := ws) hl2
  have st : ∀ (H1 : Hp), (∀ a ∈ [c, c'], H1 a = H a) → SqL K H1 c vs ∧ SqL K H1 c' ws := fun H1 k => ⟨SqL.of (by rw [k c (by simp)]; exact e), SqL.of (by rw [k c' (by simp)]; exact e')⟩
  refine ⟨[c, c'], fun a ha => ?_, fun i H1 hi k => W.goes i H1 hi (st H1 k), fun H1 k => W.stops H1 (st H1 k), fun i H1 x H2 G1 k g h1 y hi => ?_⟩
  · rcases (by simpa using ha : a = c ∨ a = c') with rfl | rfl
    · exact ⟨by rw [e]; simp, s, n⟩
    · exact ⟨by rw [e']; simp, s', n'⟩
  · obtain ⟨T, x1, x2, rfl, nT, rfl, f1, f2⟩ := W.yields i H1 x H2 hi (st H1 k) y
    obtain ⟨d1, e1, e2⟩ := al.getV f1
    obtain ⟨d2, e3, e4⟩ := al'.getV f2
    exact ⟨_, _, zip_get ds es i d1 d2 e1 e3, .tuple h1 nT (.cons (e2.mono g) (.cons (e4.mono g) .nil))⟩
end
theorem pub_nown {x : V} {dx : DV} {sl : DSt} {σ : L2.St} {K : PySem.W.Frag} {G : Hp} {so : Option Addr} {H : Hp} (rep : Rep K G so σ H sl) : ∀ o a, pubV dx = .own o → x = .ref a → ¬ Own sl σ a := fun o a e => absurd e (pubV_not dx o)
end
end DL

set_option Elab.async false
set_option linter.all false
set_option maxRecDepth 100000
set_option autoImplicit false
set_option maxHeartbeats 2000000
namespace DL
open PySem PySem.Spec PyProof.Rows L2

section
variable {X : Cx} {W : WX} {tg e e2 a b : Expr} {te : TD} {ta : TDA} {pos p : Pos}
theorem di_any (h : DE X W e te) : DI X W tg e (dIter te) := pi_imp (pi_any h) fun σ H R ⟨G, so, sl, Q, E, rep, q, hq, hx⟩ => by
  refine ⟨G, so, sl, _, E, rep, q, fun x H1 G0 dx s1 p0 q1 => ?_, hx⟩
  obtain ⟨G1, p⟩ := p0.pub
  have w := p.val
  have sv := p.sepv
  have rp := p.rep
  have pp := p.toPost
  generalize hz : pubV dx = dz at w q1 sv
  unfold iterR at q1
  split at q1
  · cases w with
    | tup g al => exact .inr (.inl ⟨_, rfl, ⟨_, ex_t rp.h.ex g⟩, hq _ H1 G1 _ s1 pp (it_tup rp g al) q1⟩)
  · cases w; exact .inr (.inr ⟨_, rfl, hq _ H1 G1 _ s1 pp it_str q1⟩)
  · exact q1.elim
  · split at q1
    · rename_i ns _o ds e1
      obtain ⟨c, vs, rfl, e2, al, _, s, n⟩ := VOk.listS rp w (fun o c e' q' => sv c o e' q') (fun o z => ns o z) e1
      exact .inl ⟨c, rfl, ⟨_, SqL.of e2⟩, hq _ H1 G1 _ s1 pp (it_list e2 al s n) q1⟩
    · exact q1.elim
theorem VsOk.v1 {K : PySem.W.Frag} {G H : Hp} {so : Option Addr} {vs : List V} {d : DV} (h : VsOk K G so H vs [d]) : ∃ v, vs = [v] ∧ VOk K G so H v d ∧ ∀ o, d ≠ .own o := by
  cases h with
  | cons w n t => cases t; exact ⟨_, rfl, w, n⟩
theorem VsOk.v2 {K : PySem.W.Frag} {G H : Hp} {so : Option Addr} {vs : List V} {d e : DV} (h : VsOk K G so H vs [d, e]) : ∃ v w, vs = [v, w] ∧ VOk K G so H v d ∧ VOk K G so H w e ∧ (∀ o, d ≠ .own o) ∧ ∀ o, e ≠ .own o := by
  cases h with
  | cons w n t =>
    obtain ⟨v, rfl, w2, n2⟩ := t.v1
    exact ⟨_, v, rfl, w, w2, n, n2⟩
theorem rep_own {K : PySem.W.Frag} {G H : Hp} {so : Option Addr} {σ : L2.St} {sl : DSt} (rep : Rep K G so σ H sl) {c : Addr} {o : HO} (g : G c = some o) : ¬ Own sl σ c := fun z => by
  have := (rep.nown z).2.1
  rw [g] at this; cases this
theorem di_rng1 (hg : Gl X "range") (hm : X.mg "range" = none) (h : DA X W [a] ta) (hs : starEach [a] X.env = [(false, eval a X.env)] := by rfl) : DI X W tg (.Call (.Name "range" p) [a] [] pos) (dItA rngR1 ta) := pi_imp (pi_range1 hg hm h hs) fun σ H R ⟨G, so, sl, Q, E, rep, q, hq, hx⟩ => by
  refine ⟨G, so, sl, _, E, rep, q, fun vs H1 G1 ds s1 pp w q1 => ?_, hx⟩
  unfold rngR1 at q1
  split at q1
  · obtain ⟨v, rfl, w1, _⟩ := w.v1
    cases w1
    exact ⟨_, rfl, q1.1, q1.2.1, hq _ H1 G1 _ s1 pp it_rng q1.2.2⟩
  · exact q1.elim
theorem di_rng2 (hg : Gl X "range") (hm : X.mg "range" = none) (h : DA X W [a, b] ta) (hs : starEach [a, b] X.env = [(false, eval a X.env), (false, eval b X.env)] := by rfl) (hs2 : starEach [b] X.env = [(false, eval b X.env)] := by rfl) : DI X W tg (.Call (.Name "range" p) [a, b] [] pos) (dItA rngR2 ta) := pi_imp (pi_range2 hg hm h hs hs2) fun σ H R ⟨G, so, sl, Q, E, rep, q, hq, hx⟩ => by
  refine ⟨G, so, sl, _, E, rep, q, fun vs H1 G1 ds s1 pp w q1 => ?_, hx⟩
  unfold rngR2 at q1
  split at q1
  · obtain ⟨v, v', rfl, w1, w2, _⟩ := w.v2
    cases w1; cases w2
    exact ⟨_, _, rfl, q1.1, hq _ H1 G1 _ s1 pp it_rng q1.2⟩
  · exact q1.elim
theorem di_enum {elts : List Expr} {kk : Nat} {tpos : Pos} (hg : Gl X "enumerate") (hm : X.mg "enumerate" = none) (h : DA X W [e] ta) (hs : starEach [e] X.env = [(false, eval e X.env)] := by rfl) : DI X W (.Tuple elts kk tpos) (.Call (.Name "enumerate" p) [e] [] pos) (dItA enumR ta) := pi_imp (pi_enum hg hm h hs) fun σ H R ⟨G, so, sl, Q, E, rep, q, hq, hx⟩ => by
  refine ⟨G, so, sl, _, E, rep, q, fun vs H1 G1 ds s1 pp w q1 => ?_, hx⟩
  unfold enumR at q1
  split at q1
  · exact q1.elim
  · exact q1.elim
  · rename_i dv n1 n2
    obtain ⟨v, rfl, w1, no⟩ := w.v1
    split at q1
    · rename_i _o xs e1
      obtain ⟨c, us, rfl, e2, al, _, s, n⟩ := VOk.listS pp.rep w1 (fun o c e' q' => e'.elim (fun z => absurd z (no o)) fun z => absurd z (n2 o)) (fun o z => n1 o z) e1
      exact ⟨c, us, rfl, SqL.of e2, hq _ H1 G1 _ s1 pp (it_enum e2 al s n) q1⟩
    · exact q1.elim
  · exact q1.elim
end
section
variable {X : Cx} {W : WX} {e e2 : Expr} {ta : TDA} {pos p : Pos}
theorem it_zipT {K : PySem.W.Frag} {G H : Hp} {so : Option Addr} {σ : L2.St} {sl : DSt} {c c' : Addr} {vs ws : List V} {ds es : List D} (rep : Rep K G so σ H sl) (g : SqT K G c vs) (al : DAll K G vs ds) (g' : SqT K G c' ws) (al' : DAll K G ws es) : ItD K G so σ H sl (RZ.ItzT K c c') (zipD ds es) := by
  have hl := zip_len ds es
  have kp : ∀ (c : Addr) (vs : List V) (H1 : Hp), SqT K G c vs → (∀ a ∈ (if G c = none then [] else [c]), H1 a = H a) → SqT K H1 c vs := fun c vs H1 e k => by
    rcases e with (e | ⟨o, e⟩) | e
    · refine .inl (.inl ?_)
      rw [k c (by rw [if_neg (by rw [e]; simp)]; simp)]; exact rep.h.ex _ _ e
    · refine .inl (.inr ⟨o, ?_⟩)
      rw [k c (by rw [if_neg (by rw [e]; simp)]; simp)]; exact rep.h.ex _ _ e
    · exact .inr e
  have st : ∀ (H1 : Hp), (∀ a ∈ (if G c = none then [] else [c]) ++ (if G c' = none then [] else [c']), H1 a = H a) → SqT K H1 c vs ∧ SqT K H1 c' ws := fun H1 k =>
    ⟨kp c vs H1 g fun a ha => k a (List.mem_append_left _ ha), kp c' ws H1 g' fun a ha => k a (List.mem_append_right _ ha)⟩
  have one : ∀ (c a : Addr), a ∈ (if G c = none then [] else [c]) → H a ≠ none ∧ so ≠ some a ∧ ¬ Own sl σ a := fun c a ha => by
    split at ha
    · simp at ha
    · rename_i z
      obtain rfl : a = c := by simpa using ha
      obtain ⟨o, eo⟩ := Option.ne_none_iff_exists'.mp z
      exact ⟨by rw [rep.h.ex _ _ eo]; simp, rep.h.nsrc eo, fun q => z (rep.nown q).2.1⟩
  refine ⟨(if G c = none then [] else [c]) ++ (if G c' = none then [] else [c']), fun a ha => (List.mem_append.mp ha).elim (one c a) (one c' a), fun i H1 hi k => ?_, fun H1 k => ?_, fun i H1 x H2 G1 k g1 h1 y hi => ?_⟩
  · have h1 : i < vs.length := by rw [al.length]; rw [hl] at hi; omega
    have h2 : i < ws.length := by rw [al'.length]; rw [hl] at hi; omega
    exact ⟨vs, ws, vs[i], ws[i], (st H1 k).1, (st H1 k).2, by simp [h1], by simp [h2]⟩
  · refine ⟨vs, ws, (st H1 k).1, (st H1 k).2, ?_⟩
    rw [hl, al.length, al'.length]
    omega
  · obtain ⟨T, x1, x2, h2, h3, h4, f1, f2⟩ := y
    have f1' := f1 vs (st H1 k).1
    have f2' := f2 ws (st H1 k).2
    subst h2; subst h4
    obtain ⟨d1, e1, e2⟩ := al.getV f1'
    obtain ⟨d2, e3, e4⟩ := al'.getV f2'
    exact ⟨_, _, zip_get ds es i d1 d2 e1 e3, .tuple h1 h3 (.cons (e2.mono g1) (.cons (e4.mono g1) .nil))⟩
theorem di_zip {elts : List Expr} {kk : Nat} {tpos : Pos} (hg : Gl X "zip") (hm : X.mg "zip" = none) (h : DA X W [e, e2] ta) (hs : starEach [e, e2] X.env = (false, eval e X.env) :: starEach [e2] X.env := by rfl) (hpl : (backTo pos (starEach [e2] X.env)).any (·.1) = false := by rfl) : DI X W (.Tuple elts kk tpos) (.Call (.Name "zip" p) [e, e2] [] pos) (dItA zipR ta) := pi_imp (RZ.pi_zipA hg hm h hs hpl) fun σ H R ⟨G, so, sl, Q, E, rep, q, hq, hx⟩ => by
  refine ⟨G, so, sl, _, E, rep, q, fun vs H1 G1 ds s1 pp w q1 => ?_, hx⟩
  unfold zipR at q1
  split at q1
  · obtain ⟨v, v', rfl, w1, w2, _⟩ := w.v2
    cases w1 with
    | tup g al =>
      cases w2 with
      | tup g' al' => exact ⟨_, _, _, _, rfl, .inr ⟨ex_t pp.rep.h.ex g, ex_t pp.rep.h.ex g', hq _ H1 G1 _ s1 pp (it_zipT pp.rep g al g' al') q1⟩⟩
  · obtain ⟨v, v', rfl, w1, w2, _⟩ := w.v2
    cases w1 with
    | lst g al =>
      cases w2 with
      | lst g' al' => exact ⟨_, _, _, _, rfl, .inl ⟨SqL.of (pp.rep.h.ex _ _ g), SqL.of (pp.rep.h.ex _ _ g'), hq _ H1 G1 _ s1 pp (it_zip (pp.rep.h.ex _ _ g) al (pp.rep.h.nsrc g) (rep_own pp.rep g) (pp.rep.h.ex _ _ g') al' (pp.rep.h.nsrc g') (rep_own pp.rep g')) q1⟩⟩
  · exact q1.elim
end

/-! ### for -/
def dForL0 (g : TDG) (tb : TDS) (E : EndsD) : List D → DSt → Prop
  | [], sl => E.nx sl
  | d :: r, sl => g d sl fun s1 => tb { nx := dForL0 g tb E r, ct := dForL0 g tb E r, bk := E.nx, rt := E.rt, xc := E.xc } s1
@[irreducible] def dForL (g : TDG) (tb : TDS) (E : EndsD) (ds : List D) (sl : DSt) : Prop := dForL0 g tb E ds sl
theorem forL_nil {g : TDG} {tb : TDS} {E : EndsD} {sl : DSt} : dForL g tb E [] sl = E.nx sl := by unfold dForL; rfl
theorem forL_cons {g : TDG} {tb : TDS} {E : EndsD} {sl : DSt} {d : D} {r : List D} : dForL g tb E (d :: r) sl = g d sl fun s1 => tb { nx := dForL g tb E r, ct := dForL g tb E r, bk := E.nx, rt := E.rt, xc := E.xc } s1 := by unfold dForL; rfl
def dFor (ti : TDI) (g : TDG) (tb : TDS) : TDS := fun E sl => ti sl (fun ds s1 => dForL g tb E ds s1) E.xc
section
variable {X : Cx} {W : WX} {tg iter : Expr} {body : List Stmt} {ti : TDI} {g : TDG} {tb : TDS} {pos : Pos} {ix : List Nat} {g' : TG}
theorem ds_for (hp : PassesOwn (model X.prog X.w) X.A X.env X.xe) (hc : X.calm = true) (hi : DI X W tg iter ti) (hg : DG X ix tg g' g) (hb : DSs X W body tb) (hs : ∀ x, foldedSetIterable iter X.env x = pure x := by intro _; rfl) : DS X W (.For tg iter body [] pos) (dFor ti g tb) := by
  obtain ⟨pg, sg⟩ := hg
  refine ps_len (ps_for hp hc hi pg hb hs) fun D σ H hl ⟨G, so, sl, E, rep, q, ok⟩ => ?_
  refine ⟨G, so, sl, _, E.xc, rep, q, fun J H1 G1 ds s1 p0 it q1 => ?_, ok.xc.ex⟩
  obtain ⟨ps, prot, goes, stops, yields⟩ := it
  have same : ∀ {σ' : L2.St} {H' G' : Hp} {sl' : DSt}, PostS X.K G1 so σ H1 s1 σ' H' G' sl' → ∀ a ∈ ps, H' a = H1 a := fun {σ' H' G' sl'} t a ha => by
    obtain ⟨n, s, w⟩ := prot a ha
    obtain ⟨o, eo⟩ := Option.ne_none_iff_exists'.mp n
    rw [t.keep a o eo s w, eo]
  have ok1 := ok.step p0.s
  refine ⟨fun i m σ' H' => m = ds.length - i ∧ i ≤ ds.length ∧ ∃ G' sl', PostS X.K G1 so σ H1 s1 σ' H' G' sl' ∧ dForL g tb E (ds.drop i) sl', ⟨ds.length, by simp, Nat.zero_le _, G1, s1, .refl p0.rep, q1⟩, ?_⟩
  rintro i m σ' H' ⟨rfl, hi, G', sl', t, q2⟩
  by_cases hlt : i < ds.length
  · refine .inr ⟨goes i H' hlt (same t), fun σ'' H'' => ∃ G'' sl'', PostS X.K G1 so σ H1 s1 σ'' H'' G'' sl'' ∧ dForL g tb E (ds.drop (i + 1)) sl'', fun σ'' H'' ⟨G'', sl'', t2, q3⟩ => ⟨ds.length - (i + 1), by omega, rfl, hlt, G'', sl'', t2, q3⟩, fun x H2 y => ?_⟩
    obtain ⟨d, G2, ed, pv⟩ := yields i H' x H2 G' (same t) t.ex t.rep.h y hlt
    have pe := pv.slots t.rep
    have t2 := t.trans pe.toPost.s
    rw [List.drop_eq_getElem_cons hlt] at q2
    have ed' : ds[i] = d := by rw [List.getElem?_eq_getElem hlt] at ed; exact Option.some.inj ed
    rw [ed', forL_cons] at q2
    refine sg G2 so σ' H2 sl' x d _ _ (t.ln.trans hl) pe.rep pe.val q2 fun σ3 sl3 t3 _ q3 => ?_
    have t13 := t2.trans t3
    refine ⟨G2, so, sl3, _, t3.rep, q3, ⟨fun σ4 H4 G4 s4 t4 q4 => ⟨G4, s4, t13.trans t4, q4⟩, fun σ4 H4 G4 s4 t4 q4 => ok1.nx σ4 H4 G4 s4 (t13.trans t4) q4, fun σ4 H4 G4 s4 t4 q4 => ⟨G4, s4, t13.trans t4, q4⟩, fun v H4 G4 dv t4 q4 => ok1.rt v H4 G4 dv (t13.thenR t4) q4, ok1.xc.step t13⟩⟩
  · have e : i = ds.length := by omega
    subst e
    rw [List.drop_length, forL_nil] at q2
    exact .inl ⟨stops H' (same t), ok1.nx σ' H' G' sl' t q2⟩
end

/-! ### while -/
def dWhile (c : TDT) (tb : TDS) : TDS := fun E sl => ∃ I : Nat → DSt → Prop, (∃ m, I m sl) ∧ ∀ m s, I m s → c s (fun b s1 => Br b (tb { nx := fun s2 => ∃ m', m' < m ∧ I m' s2, ct := fun s2 => ∃ m', m' < m ∧ I m' s2, bk := E.nx, rt := E.rt, xc := E.xc } s1) (E.nx s1)) E.xc
section
variable {X : Cx} {W : WX} {c : Expr} {body : List Stmt} {tc : TDT} {tb : TDS} {pos : Pos}
theorem ds_while (hp : PassesOwn (model X.prog X.w) X.A X.env X.xe) (hc : DT X W c tc) (hb : DSs X W body tb) : DS X W (.While c body [] pos) (dWhile tc tb) := by
  refine ps_imp (ps_while hp hc hb) fun D σ H ⟨G, so, sl, E, rep, ⟨I, ⟨m0, i0⟩, turn⟩, ok⟩ => ?_
  refine ⟨fun m σ' H' => ∃ G' sl', PostS X.K G so σ H sl σ' H' G' sl' ∧ I m sl', ⟨m0, G, sl, .refl rep, i0⟩, ?_⟩
  rintro m σ' H' ⟨G', sl', t, im⟩
  have okt := ok.step t
  refine ⟨G', so, sl', _, E.xc, t.rep, turn m sl' im, fun b H1 G1 s1 p q => ?_, okt.xc.ex⟩
  have t1 := t.trans p.s
  cases b with
  | true =>
    refine iteT ?_
    refine ⟨fun σ2 H2 => ∃ m', m' < m ∧ ∃ G2 s2, PostS X.K G so σ H sl σ2 H2 G2 s2 ∧ I m' s2, fun σ2 H2 h => h, ?_⟩
    exact ⟨G1, so, s1, _, p.rep, (brt q), ⟨fun σ4 H4 G4 s4 t4 ⟨m', hm, q4⟩ => ⟨m', hm, G4, s4, t1.trans t4, q4⟩, fun σ4 H4 G4 s4 t4 q4 => ok.nx σ4 H4 G4 s4 (t1.trans t4) q4, fun σ4 H4 G4 s4 t4 ⟨m', hm, q4⟩ => ⟨m', hm, G4, s4, t1.trans t4, q4⟩, fun v H4 G4 dv t4 q4 => ok.rt v H4 G4 dv (t1.thenR t4) q4, ok.xc.step t1⟩⟩
  | false =>
    refine iteF ?_
    exact ok.nx σ' H1 G1 s1 t1 ((brf q))
end

/-! ### comprehensions -/
def wipeD (sl : DSt) : List Nat → DSt
  | [] => sl
  | v :: vs => (wipeD sl vs).set v none
def dLcL0 (g : TDG) (tt : TDT) (te : TD) (vs : List Nat) (Q : DV → DSt → Prop) : List D → List D → DSt → Prop
  | [], acc, sl => Q (.own (.lst acc)) sl
  | d :: r, acc, sl => g d sl fun s1 => tt s1 (fun b s2 => Br b (te s2 (fun x s3 => match pubV x with
    | .d y => acc.length < szl ∧ dLcL0 g tt te vs Q r (acc ++ [y]) (wipeD s3 vs)
    | _ => False) fun _ _ _ => False) (dLcL0 g tt te vs Q r acc (wipeD s2 vs))) fun _ _ _ => False
@[irreducible] def dLcL (g : TDG) (tt : TDT) (te : TD) (vs : List Nat) (Q : DV → DSt → Prop) (ds acc : List D) (sl : DSt) : Prop := dLcL0 g tt te vs Q ds acc sl
theorem lcL_nil {g : TDG} {tt : TDT} {te : TD} {vs : List Nat} {Q : DV → DSt → Prop} {acc : List D} {sl : DSt} : dLcL g tt te vs Q [] acc sl = Q (.own (.lst acc)) sl := by unfold dLcL; rfl
theorem lcL_cons {g : TDG} {tt : TDT} {te : TD} {vs : List Nat} {Q : DV → DSt → Prop} {d : D} {r acc : List D} {sl : DSt} : dLcL g tt te vs Q (d :: r) acc sl = g d sl fun s1 => tt s1 (fun b s2 => Br b (te s2 (fun x s3 => match pubV x with
    | .d y => acc.length < szl ∧ dLcL g tt te vs Q r (acc ++ [y]) (wipeD s3 vs)
    | _ => False) fun _ _ _ => False) (dLcL g tt te vs Q r acc (wipeD s2 vs))) fun _ _ _ => False := by unfold dLcL; rfl
def dLc (ti : TDI) (g : TDG) (tt : TDT) (te : TD) (vs : List Nat) : TD := fun sl Q E => ti sl (fun ds s1 => dLcL g tt te vs Q ds [] (wipeD s1 vs)) E
def dYes : TDT := fun sl Q _ => Q true sl
def DTs (X : Cx) (W : WX) (ifs : List Expr) (t : TDT) : Prop := PTs X ifs (upT X.K W t)
abbrev W0 : WX := fun _ _ _ _ => False
section
variable {X : Cx} {W : WX}
theorem dts_nil : DTs X W [] dYes := ⟨fun pins s σ H Q I ⟨G, so, sl, Q', E, rep, q, hq, hx⟩ => pts_nil.run pins s σ H Q I (hq true H G sl (.refl rep) q)⟩
theorem dts_one {c : Expr} {t : TDT} (h : DT X W c t) : DTs X W [c] t := pts_one h
section
variable {K : PySem.W.Frag} {G : Hp} {so : Option Addr} {σ : L2.St} {H : Hp} {sl : DSt} {vs : List Nat}
theorem wipeD_some {i : Nat} {x : DV} : ∀ {vs : List Nat}, (wipeD sl vs)[i]? = some (some x) → sl[i]? = some (some x) ∧ i ∉ vs
  | [], h => ⟨h, by simp⟩
  | v :: vs, h => by
    unfold wipeD at h
    rcases get_set h with ⟨rfl, e⟩ | ⟨ne, e⟩
    · cases e
    · obtain ⟨q1, q2⟩ := wipeD_some e
      exact ⟨q1, fun z => (List.mem_cons.mp z).elim ne q2⟩
theorem wipeD_len : ∀ (vs : List Nat), (wipeD sl vs).length = sl.length
  | [] => rfl
  | v :: vs => by unfold wipeD; rw [List.length_set, wipeD_len vs]
theorem own_wipe {c : Addr} (h : Own (wipeD sl vs) (wipe σ vs) c) : Own sl σ c := by
  obtain ⟨i, o, e1, e2⟩ := h
  exact ⟨i, o, (wipeD_some e1).1, (wipe_some e2).1⟩
theorem Rep.wipe (r : Rep K G so σ H sl) (vs : List Nat) : Rep K G so (L2.wipe σ vs) H (wipeD sl vs) :=
  ⟨r.h, by rw [wipeD_len, wipe_length]; exact r.len, fun i d e => by
    obtain ⟨e1, n⟩ := wipeD_some e
    obtain ⟨v, f1, f2⟩ := r.slots i d e1
    exact ⟨v, by rw [wipe_out n]; exact f1, f2⟩,
    fun i j o o' a e1 e2 e3 e4 => r.sep i j o o' a (wipeD_some e1).1 (wipeD_some e2).1 (wipe_some e3).1 (wipe_some e4).1,
    fun i o a e1 e2 z => r.bor i o a (wipeD_some e1).1 (wipe_some e2).1 (own_wipe z), fun i o e => r.nse i o (wipeD_some e).1⟩
/-- fewer slots known -/
theorem Rep.wipe2 (r : Rep K G so σ H sl) (vs : List Nat) (hv : ∀ i ∈ vs, σ[i]? = σ[i]?) : Rep K G so σ H (wipeD sl vs) :=
  ⟨r.h, by rw [wipeD_len]; exact r.len, fun i d e => r.slots i d (wipeD_some e).1,
    fun i j o o' a e1 e2 e3 e4 => r.sep i j o o' a (wipeD_some e1).1 (wipeD_some e2).1 e3 e4,
    fun i o a e1 e2 ⟨j, o', f1, f2⟩ => r.bor i o a (wipeD_some e1).1 e2 ⟨j, o', (wipeD_some f1).1, f2⟩, fun i o e => r.nse i o (wipeD_some e).1⟩
theorem wipe_eq {σ1 σ2 : L2.St} (hl : σ1.length = σ2.length) (h : ∀ j, j ∉ vs → σ1[j]? = σ2[j]?) : wipe σ1 vs = wipe σ2 vs := by
  have z : ∀ (σ : L2.St) (j : Nat) (vs : List Nat), j ∈ vs → j < σ.length → (wipe σ vs)[j]? = some none := by
    intro σ j vs
    induction vs with
    | nil => intro h; simp at h
    | cons v r ih =>
      intro hm hj
      unfold wipe
      by_cases e : v = j
      · subst e; rw [List.getElem?_set_self (by rw [wipe_length]; exact hj)]
      · rw [List.getElem?_set_ne e]
        rcases List.mem_cons.mp hm with q | q
        · exact absurd q.symm e
        · exact ih q hj
  refine List.ext_getElem? fun j => ?_
  by_cases m : j ∈ vs
  · by_cases hj : j < σ1.length
    · rw [z σ1 j vs m hj, z σ2 j vs m (by rw [← hl]; exact hj)]
    · rw [List.getElem?_eq_none (by rw [wipe_length]; omega), List.getElem?_eq_none (by rw [wipe_length]; omega)]
  · rw [wipe_out m, wipe_out m]; exact h j m
theorem wipe_twice (vs : List Nat) : L2.wipe (L2.wipe σ vs) vs = L2.wipe σ vs := wipe_eq (wipe_length σ vs) fun j m => wipe_out m
/-- back from the block -/
theorem Post.unwipe {H1 G1 : Hp} {s1 : DSt} (r : Rep K G so σ H sl) (p : Post K G so (L2.wipe σ vs) H (wipeD sl vs) H1 G1 s1) : Post K G so σ H sl H1 G1 s1 := by
  have lk : ∀ (i : Nat) (dv : DV), s1[i]? = some (some dv) → (L2.wipe σ vs)[i]? = σ[i]? := fun i dv e => by
    obtain ⟨v, f1, _⟩ := p.rep.slots i dv e
    rw [f1, (wipe_some f1).1]
  have ow : ∀ c, Own s1 σ c → Own s1 (L2.wipe σ vs) c := fun c ⟨i, o, e1, e2⟩ => ⟨i, o, e1, by rw [lk i _ e1]; exact e2⟩
  refine ⟨p.ex, ⟨p.rep.h, by rw [p.rep.len, wipe_length], fun i dv e => ?_, fun i j o o' a e1 e2 e3 e4 => ?_, fun i o a e1 e2 z => ?_, p.rep.nse⟩, p.keep, fun a n g s w => p.frm a n g s fun z => w (own_wipe z), fun a z => own_wipe (p.sub a (ow a z)), fun i o e => let ⟨o1, e1⟩ := p.bsub i o e; ⟨o1, (wipeD_some e1).1⟩⟩
  · obtain ⟨v, f1, f2⟩ := p.rep.slots i dv e
    exact ⟨v, (wipe_some f1).1, f2⟩
  · exact p.rep.sep i j o o' a e1 e2 (by rw [lk i _ e1]; exact e3) (by rw [lk j _ e2]; exact e4)
  · exact p.rep.bor i o a e1 (by rw [lk i _ e1]; exact e2) (ow a z)
end
variable {elt tg iter : Expr} {ifs : List Expr} {scope : Scope} {own : List (Str × Nat)} {pos spos : Pos} {ti : TDI} {g : TDG} {tt : TDT} {te : TD} {ix : List Nat}
theorem up_lc {K : PySem.W.Frag} {n : Nat} {g' : TG} {σ : L2.St} {H : Hp} {R : VK} (vs : List Nat) (hl : σ.length = n) (sg : GSem K n ix g' g) (hix : ∀ j, j ∈ ix → j ∈ vs) (h : up K W (dLc ti g tt te vs) σ H R) : tLc (upI K W ti) g' (upT K W0 tt) (up K W0 te) vs σ H R := by
  obtain ⟨G, so, sl, Q, E, rep, q, hq, hx⟩ := h
  refine ⟨G, so, sl, _, E, rep, q, fun J H1 G1 ds s1 p0 it q1 => ?_, hx⟩
  obtain ⟨ps, prot, goes, stops, yields⟩ := it
  intro C hC
  have nsC : so ≠ some C := p0.rep.h.there hC
  have rw1 := p0.rep.wipe vs
  have psC : ∀ a ∈ ps, a ≠ C := fun a ha z => (prot a ha).1 (z ▸ hC)
  -- the list so far stands at C; all else is as behind an expression
  refine ⟨fun i m H' => m = ds.length - i ∧ i ≤ ds.length ∧ ∃ G' sl' us acc, Post K G1 so (L2.wipe σ vs) H1 (wipeD s1 vs) H' G' sl' ∧ H' C = some (.lst us) ∧ G' C = none ∧ DAll K G' us acc ∧ dLcL g tt te vs Q (ds.drop i) acc sl',
    ⟨ds.length, by simp, Nat.zero_le _, G1, _, [], [], ?_, upd_same, p0.rep.h.ex.free hC, .nil, q1⟩, ?_⟩
  · have pv := PostV.list (K := K) (G := G1) (so := so) (ds := []) rw1.h hC .nil
    exact (pv.slots rw1).toPost
  rintro i m H' ⟨rfl, hi, G', sl', us, acc, t, hCl, gC, al, q2⟩
  have same : ∀ a ∈ ps, H' a = H1 a := fun a ha => by
    obtain ⟨n1, s, w⟩ := prot a ha
    exact keep_ne t.keep n1 s
  have noC : ∀ {sl'' : DSt} {σ'' : L2.St}, (∀ a, Own sl'' σ'' a → Own (wipeD s1 vs) (L2.wipe σ vs) a) → ¬ Own sl'' σ'' C := fun f z => (p0.rep.nown (own_wipe (f C z))).1 hC
  have borC : ∀ (j : Nat) (o : OO), (wipeD s1 vs)[j]? = some (some (.bor o)) → (L2.wipe σ vs)[j]? = some (some (.ref C)) → False := fun j o e1 e2 => by
    obtain ⟨v, f1, f2⟩ := rw1.slots j _ e1
    rw [e2] at f1; cases f1
    obtain ⟨b, z, _, k⟩ := f2
    cases z
    exact k.there hC
  by_cases hlt : i < ds.length
  · refine .inr ⟨goes i H' hlt same, fun H'' => ∃ G'' sl'' us' acc', Post K G1 so (L2.wipe σ vs) H1 (wipeD s1 vs) H'' G'' sl'' ∧ H'' C = some (.lst us') ∧ G'' C = none ∧ DAll K G'' us' acc' ∧ dLcL g tt te vs Q (ds.drop (i + 1)) acc' sl'',
      fun H'' ⟨G'', sl'', us', acc', h1, h2, h3, h4, h5⟩ => ⟨ds.length - (i + 1), by omega, rfl, hlt, G'', sl'', us', acc', h1, h2, h3, h4, h5⟩, fun x H2 y => ?_⟩
    obtain ⟨d, G2, ed, pv⟩ := yields i H' x H2 G' same t.ex t.rep.h y hlt
    have pe := pv.slots t.rep
    have C2 : H2 C = some (.lst us) := pe.keep C _ hCl nsC
    have g2 : G2 C = none := pe.frm C (by rw [hCl]; simp) gC nsC (noC t.sub)
    rw [List.drop_eq_getElem_cons hlt] at q2
    have ed' : ds[i] = d := by rw [List.getElem?_eq_getElem hlt] at ed; exact Option.some.inj ed
    rw [ed', lcL_cons] at q2
    refine sg G2 so _ H2 sl' x d _ _ ((wipe_length σ vs).trans hl) pe.rep pe.val q2 fun σ3 sl3 t3 u3 q3 => ?_
    have e3 : L2.wipe σ3 vs = L2.wipe σ vs := by
      rw [← wipe_twice (σ := σ) vs]
      exact wipe_eq t3.ln fun j hj => (u3 j fun z => hj (hix j z)).1
    have sub3 : ∀ a, Own (wipeD sl3 vs) (L2.wipe σ3 vs) a → Own (wipeD s1 vs) (L2.wipe σ vs) a := fun a z => by
      rw [e3] at z
      by_cases w : Own sl' (L2.wipe σ vs) a
      · exact t.sub a w
      · obtain ⟨j, o, z1, z2⟩ := z
        have z2' : σ3[j]? = some (some (.ref a)) := by
          rw [← e3] at z2; exact (wipe_some z2).1
        have ow3 : Own sl3 σ3 a := ⟨j, o, (wipeD_some z1).1, z2'⟩
        obtain ⟨n1, g1, s1'⟩ := t3.rep.nown ow3
        exact absurd ow3 (t3.sub a n1 s1' w)
    have sub3' : ∀ a, Own sl3 σ3 a → Own sl' (L2.wipe σ vs) a := fun a z => by
      by_cases w : Own sl' (L2.wipe σ vs) a
      · exact w
      · obtain ⟨n1, g1, s1'⟩ := t3.rep.nown z
        exact absurd z (t3.sub a n1 s1' w)
    have bs3 : ∀ (j : Nat) (o : OO), sl3[j]? = some (some (.bor o)) → j ∉ vs → ∃ o', (wipeD s1 vs)[j]? = some (some (.bor o')) := fun j o e n => by
      rw [(u3 j fun z => n (hix j z)).2] at e
      exact t.bsub j o e
    refine ⟨e3, G2, so, sl3, _, fun _ _ _ => False, t3.rep, q3, fun b H4 G4 s4 p4 q4 => ?_, fun _ _ _ _ _ _ _ _ z => z⟩
    have C4 : H4 C = some (.lst us) := p4.keep C _ C2 nsC
    have n3C : ¬ Own sl3 σ3 C := fun z => noC t.sub (sub3' C z)
    have g4 : G4 C = none := p4.frm C (by rw [C2]; simp) g2 nsC n3C
    have k4 : ∀ a o, H1 a = some o → so ≠ some a → H4 a = some o := fun a o e s => p4.keep a o (pe.keep a o (t.keep a o e s) s) s
    have f4 : ∀ a, H1 a ≠ none → G1 a = none → so ≠ some a → ¬ Own (wipeD s1 vs) (L2.wipe σ vs) a → G4 a = none := fun a n1 g1 s w => by
      have n2 : ¬ Own sl' (L2.wipe σ vs) a := fun z => w (t.sub a z)
      have h' : H' a ≠ none := by rw [keep_ne t.keep n1 s]; exact n1
      have h2 : H2 a ≠ none := by rw [keep_ne pe.keep h' s]; exact h'
      exact p4.frm a h2 (pe.frm a h' (t.frm a n1 g1 s w) s n2) s fun z => n2 (sub3' a z)
    have bs4 : ∀ (j : Nat) (o : OO), s4[j]? = some (some (.bor o)) → j ∉ vs → ∃ o', (wipeD s1 vs)[j]? = some (some (.bor o')) := fun j o e n => by
      obtain ⟨o1, e1⟩ := p4.bsub j o e
      exact bs3 j o1 e1 n
    cases b with
    | false =>
      refine iteF ⟨G4, wipeD s4 vs, us, acc, ⟨t.ex.trans (pe.ex.trans p4.ex), ?_, k4, f4, fun a z => ?_, fun j o e => bs4 j o (wipeD_some e).1 (wipeD_some e).2⟩, C4, g4, al.mono (pe.ex.trans p4.ex), (brf q4)⟩
      · have r := p4.rep.wipe vs; rw [e3] at r; exact r
      · refine t.sub a (sub3' a (p4.sub a (own_wipe (vs := vs) ?_)))
        rw [e3]; exact z
    | true =>
      refine iteT ⟨G4, so, s4, _, fun _ _ _ => False, p4.rep, (brt q4), fun y H5 G5 dy s5 p5' q5 => ?_, fun _ _ _ _ _ _ _ _ z => z⟩
      obtain ⟨G6, p5⟩ := p5'.pub
      have wv := p5.val
      split at q5
      · rename_i yd ey
        rw [ey] at wv
        have n4C : ¬ Own s4 σ3 C := fun z => n3C (p4.sub C z)
        have C5 : H5 C = some (.lst us) := p5.keep C _ C4 nsC
        have g5 : G6 C = none := p5.frm C (by rw [C4]; simp) g4 nsC n4C
        have k5 : ∀ a o, H1 a = some o → so ≠ some a → H5 a = some o := fun a o e s => p5.keep a o (k4 a o e s) s
        have f5 : ∀ a, H1 a ≠ none → G1 a = none → so ≠ some a → ¬ Own (wipeD s1 vs) (L2.wipe σ vs) a → G6 a = none := fun a n1 g1 s w => by
          have n2 : ¬ Own sl' (L2.wipe σ vs) a := fun z => w (t.sub a z)
          have h4 : H4 a ≠ none := by rw [keep_ne k4 n1 s]; exact n1
          exact p5.frm a h4 (f4 a n1 g1 s w) s fun z => n2 (sub3' a (p4.sub a z))
        have bs5 : ∀ (j : Nat) (o : OO), s5[j]? = some (some (.bor o)) → j ∉ vs → ∃ o', (wipeD s1 vs)[j]? = some (some (.bor o')) := fun j o e n => by
          obtain ⟨o1, e1⟩ := p5.bsub j o e
          exact bs4 j o1 e1 n
        have al5 : DAll K G6 us acc := al.mono (pe.ex.trans (p4.ex.trans p5.ex))
        have lu : us.length = acc.length := al5.length
        refine ⟨us, C5, by rw [lu, ← szl_eq]; exact q5.1, G6, wipeD s5 vs, us ++ [y], acc ++ [yd], ⟨t.ex.trans (pe.ex.trans (p4.ex.trans p5.ex)), ?_, fun a o e s => ?_, f5, fun a z => ?_, fun j o e => bs5 j o (wipeD_some e).1 (wipeD_some e).2⟩, upd_same, g5, al5.append (.cons wv .nil), q5.2⟩
        · have r := p5.rep.wipe vs
          rw [e3] at r
          -- the heap changes at C alone
          refine ⟨⟨fun a o e => ?_, fun a e => ?_⟩, r.len, fun j dv e => ?_, r.sep, r.bor, r.nse⟩
          · rw [upd_ne (ne_of_none e g5)]; exact r.h.ex a o e
          · exact (r.h.src a e).keep (Ex.refl _) (r.h.src a e).1 (upd_ne fun z => nsC (z ▸ e))
          · obtain ⟨v, f1, f2⟩ := r.slots j dv e
            refine ⟨v, f1, ?_⟩
            have key : ∀ a : Addr, a ≠ C → (upd H5 C (.lst (us ++ [y]))) a = H5 a := fun a z => upd_ne z
            cases dv with
            | d z => exact f2
            | src => exact f2
            | own o =>
              obtain ⟨a, r1, r2, r3, r4⟩ := f2
              subst r1
              have z : a ≠ C := fun z => by
                subst z
                exact noC (fun a z => t.sub a (sub3' a (p4.sub a (p5.sub a (own_wipe (vs := vs) (by rw [e3]; exact z)))))) ⟨j, o, e, f1⟩
              exact ⟨a, rfl, r2, r3, r4.keep (Ex.refl _) (key a z)⟩
            | bor o =>
              obtain ⟨a, r1, r3, r4⟩ := f2
              subst r1
              have z : a ≠ C := fun z => by
                subst z
                obtain ⟨o1, z1⟩ := bs5 j o (wipeD_some e).1 (wipeD_some e).2
                exact borC j o1 z1 f1
              exact ⟨a, rfl, r3, r4.keep (Ex.refl _) (key a z)⟩
            | see o => exact absurd e (r.nse j o)
        · rw [upd_ne (fun z => by subst z; rw [hC] at e; cases e)]; exact k5 a o e s
        · exact t.sub a (sub3' a (p4.sub a (p5.sub a (own_wipe (vs := vs) (by rw [e3]; exact z)))))
      · exact q5.elim
  · have e : i = ds.length := by omega
    subst e
    rw [List.drop_length, lcL_nil] at q2
    refine .inl ⟨stops H' same, hq _ H' G' _ sl' ?_ q2⟩
    have pu := t.unwipe p0.rep
    refine (p0.thenE { pu with val := ⟨C, rfl, gC, nsC, us, hCl, al⟩, new := fun a o _ z => ?_, sepv := fun a o _ z w => ?_, nbs := fun a o j o' _ z e1 e2 => ?_ })
    · cases z; exact .inl hC
    · cases z; exact (p0.rep.nown (pu.sub _ w)).1 hC
    · cases z
      obtain ⟨o1, z1⟩ := t.bsub j o' e1
      have lkj : (L2.wipe σ vs)[j]? = some (some (.ref C)) := by rw [wipe_out (wipeD_some z1).2]; exact e2
      exact borC j o1 z1 lkj
/-- as a value -/
theorem de_lc {g' : TG} (hc : X.calm = true) (hN : X.N.Nodup) (hi : DI X W tg iter ti) (ok : BlkOk X.N X.env.scope scope own)
    (hg : ∀ s H C cl fp, DG (X.blk s H scope (compEnvC scope cl C X.env) fp) ix tg g' g) (ht : ∀ s H C cl fp, DTs (X.blk s H scope (compEnvC scope cl C X.env) fp) W0 ifs tt)
    (he : ∀ s H C cl fp, DE (X.blk s H scope (compEnvC scope cl C X.env) fp) W0 elt te) (hix : ∀ j, j ∈ ix → j ∈ own.map (·.2) := by decide) (hs : ∀ x, foldedSetIterable iter X.env x = pure x := by intro _; rfl) :
    DE X W (.ListComp elt [⟨tg, iter, ifs, 0⟩] scope pos) (dLc ti g tt te (own.map (·.2))) := by
  have b := pe_lc (tt := upT X.K W0 tt) (te := up X.K W0 te) (ifs := ifs) (elt := elt) (pos := pos) hc hN hi ok (fun s H C cl fp => (hg s H C cl fp).pg) ht he hs
  exact ⟨fun pins s σ H Q I q => b.run pins s σ H Q I (up_lc _ I.len (hg s H 0 [] []).sem hix q)⟩
/-- name = [..] -/
theorem ds_setLc {g' : TG} {i : Nat} {y : Str} {py : Pos} (hc : X.calm = true) (hN : X.N.Nodup) (hy : X.N[i]? = some y) (hyl : X.env.scope.names.lookup y = some .local) (hsw : swapsWith (.ListComp elt [⟨tg, iter, ifs, 0⟩] scope pos) (some (.Name y py)) spos.line X.env = pure true)
    (hi : DI X W tg iter ti) (ok : BlkOk X.N X.env.scope scope own)
    (hg : ∀ s H C cl fp, DG (X.blk s H scope (compEnvC scope cl C X.env) fp) ix tg g' g) (ht : ∀ s H C cl fp, DTs (X.blk s H scope (compEnvC scope cl C X.env) fp) W0 ifs tt)
    (he : ∀ s H C cl fp, DE (X.blk s H scope (compEnvC scope cl C X.env) fp) W0 elt te) (hix : ∀ j, j ∈ ix → j ∈ own.map (·.2) := by decide) (hs : ∀ x, foldedSetIterable iter X.env x = pure x := by intro _; rfl) :
    DS X W (.Assign [.Name y py] (.ListComp elt [⟨tg, iter, ifs, 0⟩] scope pos) spos) (dSet (dLc ti g tt te (own.map (·.2))) i) := by
  have b := ps_setLc (tt := upT X.K W0 tt) (te := up X.K W0 te) (pos := pos) (spos := spos) (py := py) hc hN hy hyl hsw hi ok (fun s H C cl fp => (hg s H C cl fp).pg) ht he hs
  refine ⟨fun pins s σ H D I q => b.run pins s σ H D I ?_⟩
  have q2 := up_set (K := X.K) (W := W) (te := dLc ti g tt te (own.map (·.2))) (i := i) (D := D) (σ := σ) (H := H) (fun _ => by rw [I.len]; exact (List.getElem?_eq_some_iff.mp hy).1) q
  exact up_lc _ I.len (hg s H 0 [] []).sem hix q2
end
end DL

set_option Elab.async false
set_option linter.all false
set_option maxRecDepth 100000
set_option autoImplicit false
set_option maxHeartbeats 2000000
namespace DL
open PySem PySem.Spec PyProof.Rows L2

/-! ### promises of defs over trees -/
abbrev XE' := Value → List (Str × D) → Prop
abbrev SpD := List DV → (DV → Prop) → XE' → Prop
structure PostH (K : PySem.W.Frag) (G : Hp) (so : Option Addr) (H : Hp) (H' G' : Hp) : Prop where
  ex : Ex G G'
  hrep : HRep K G' so H'
  keep : ∀ a o, H a = some o → so ≠ some a → H' a = some o
  frm : ∀ a, H a ≠ none → G a = none → so ≠ some a → G' a = none
def upSp (K : PySem.W.Frag) (sp : SpD) : Sp := fun vs H Q E => ∃ G so args QD ED, HRep K G so H ∧ VsOk K G so H vs args ∧ sp args QD ED ∧ (∀ v H' G' dv, PostV K G so H v H' G' dv → QD dv → Q v H') ∧
  (∀ cls d H' G' fs, PostH K G so H H' G' → XdOk K G' H' d fs → ED cls fs → E cls d H')
/-- the def at f keeps the promise sp; nothing is being shown by repr around it -/
structure FnG (P : Program) (w : World) (K : PySem.W.Frag) (mg : Str → Option Value) (base : Heap) (k : Nat) (f : Addr) (fd : FuncData) (ps : List Str) (sp : SpD) : Prop where
  len : ∀ args Q E, sp args Q E → args.length = ps.length
  run : ∀ (A : Around) (outer : List Env) (s : Shared) (H : Hp) (args : Args) (us : List Value) (vs : List V) (Q : VK) (E : XK), Room k A → A.guards = some [] → Env0 P w K mg base A outer s H → BindsTo s fd args (ps.zip us) → Vals vs us → upSp K sp vs H Q E →
    codeAny (model P w) A (.call (.ref f) args) (CR (L2.CX P w) outer P w H s Q E) s
theorem FnG.mono {P : Program} {w : World} {K : PySem.W.Frag} {mg : Str → Option Value} {base : Heap} {j k : Nat} {f : Addr} {fd : FuncData} {ps : List Str} {sp : SpD} (F : FnG P w K mg base j f fd ps sp) (h : j ≤ k) : FnG P w K mg base k f fd ps sp :=
  ⟨F.len, fun A outer s H args us vs Q E hr => F.run A outer s H args us vs Q E (hr.mono h)⟩
theorem FnG.imp {P : Program} {w : World} {K : PySem.W.Frag} {mg : Str → Option Value} {base : Heap} {k : Nat} {f : Addr} {fd : FuncData} {ps : List Str} {sp sp' : SpD} (F : FnG P w K mg base k f fd ps sp) (h : ∀ a Q E, sp' a Q E → sp a Q E) : FnG P w K mg base k f fd ps sp' :=
  ⟨fun a Q E q => F.len a Q E (h _ _ _ q), fun A outer s H args us vs Q E hr hg e0 hb hv ⟨G, so, as, QD, ED, r, v, q, z1, z2⟩ => F.run A outer s H args us vs Q E hr hg e0 hb hv ⟨G, so, as, QD, ED, r, v, h _ _ _ q, z1, z2⟩⟩

def startD (N : List Str) (args : List DV) : DSt := args.map some ++ List.replicate (N.length - args.length) none
theorem VsOk.get {K : PySem.W.Frag} {G : Hp} {so : Option Addr} {H : Hp} : ∀ {vs : List V} {ds : List DV} {i : Nat} {d : DV}, VsOk K G so H vs ds → ds[i]? = some d → ∃ v, vs[i]? = some v ∧ VOk K G so H v d ∧ ∀ o, d ≠ .own o
  | _, _, _, _, .nil, e => by simp at e
  | _, _, 0, _, .cons h n _, e => by simp at e; subst e; exact ⟨_, rfl, h, n⟩
  | _, _, i + 1, _, .cons _ _ t, e => by
    obtain ⟨v, h1, h2⟩ := VsOk.get (i := i) t (by simpa using e)
    exact ⟨v, by simpa using h1, h2⟩
theorem start_get {N : List Str} {args : List DV} {i : Nat} {d : DV} (h : (startD N args)[i]? = some (some d)) : args[i]? = some d := by
  unfold startD at h
  by_cases hi : i < args.length
  · rw [List.getElem?_append_left (by simpa using hi), List.getElem?_map] at h
    cases e : args[i]? with
    | none => rw [e] at h; cases h
    | some a => rw [e] at h; cases h; rfl
  · rw [List.getElem?_append_right (by simpa using hi), List.getElem?_replicate] at h
    split at h <;> cases h
theorem rep_start {K : PySem.W.Frag} {G : Hp} {so : Option Addr} {H : Hp} {N : List Str} {vs : List V} {args : List DV} (h : HRep K G so H) (w : VsOk K G so H vs args) (ns : ∀ (i : Nat) (o : OO), args[i]? ≠ some (.see o)) : Rep K G so (L2.start N vs) H (startD N args) := by
  have lv := w.length
  have no : ∀ a, ¬ Own (startD N args) (L2.start N vs) a := fun a ⟨i, o, e, _⟩ => by
    obtain ⟨_, _, _, n⟩ := w.get (start_get e)
    exact n o rfl
  refine ⟨h, by unfold startD L2.start; simp [lv], fun i d e => ?_, fun i j o o' a e1 _ _ _ => ?_, fun i o a _ _ => no a, fun i o e => ns i o (start_get e)⟩
  · obtain ⟨v, e1, e2, _⟩ := w.get (start_get e)
    refine ⟨v, ?_, e2⟩
    unfold L2.start
    have hi : i < vs.length := (List.getElem?_eq_some_iff.mp e1).1
    rw [List.getElem?_append_left (by simpa using hi), List.getElem?_map, e1]; rfl
  · obtain ⟨_, _, _, n⟩ := w.get (start_get e1)
    exact absurd rfl (n o)
/-- what a def may hand back -/
def retQ (Q : DV → Prop) : DV → Prop
  | .see _ => False
  | .bor _ => False
  | v => Q v
theorem retQ_of {Q : DV → Prop} {v : DV} (h : retQ Q v) : (∀ o, v ≠ .bor o) ∧ Q v := by
  cases v with
  | d x => exact ⟨fun _ z => (nomatch z), h⟩
  | src => exact ⟨fun _ z => (nomatch z), h⟩
  | own o => exact ⟨fun _ z => (nomatch z), h⟩
  | bor o => exact h.elim
  | see o => exact h.elim
theorem deeper_guards (A : Around) (env : Env) : (A.deeper env).guards = A.guards := rfl
/-- THE RULE for a def: t is its body's reading -/
theorem fnG_of {P : Program} {w : World} {K : PySem.W.Frag} {mg : Str → Option Value} {base : Heap} {x qual : Str} {params : Arguments} {body : List Stmt} {scope : Scope} {dvs : List V} {kws : List (Str × V)} {f : Addr} {fd : FuncData} {N ps : List Str} {k : Nat} {sp : SpD} {t : TDS}
    (F : FunD K x qual params body scope dvs kws f fd) (S : FnScope N ps scope) (len : ∀ args Q E, sp args Q E → args.length = ps.length) (nsee : ∀ args Q E, sp args Q E → ∀ (i : Nat) (o : OO), args[i]? ≠ some (.see o))
    (hd : ∀ (cdv : Value) (A : Around) (outer : List Env) (s : Shared) (H : Hp) (E : XK), Room k (A.deeper (envOfC qual scope s.heap.objs.size f cdv)) → (cxOf (L2.CX P w) P w K mg base N qual scope f cdv A outer s H E).A.guards = some [] →
      DSs (cxOf (L2.CX P w) P w K mg base N qual scope f cdv A outer s H E) (fun cls d _ H' => E cls d H') body t)
    (hr : ∀ args Q E, sp args Q E → t { nx := fun _ => Q (.d .non), rt := retQ Q, bk := fun _ => False, ct := fun _ => False, xc := fun cls fs _ => E cls fs } (startD N args)) : FnG P w K mg base (k + 1) f fd ps sp := by
  obtain ⟨oc, od, dV, kV, doc, pm, an, cdv, ct, osl, rfl, lk, hcd, _, _⟩ := F.ex
  refine ⟨len, fun A outer s H args us vs Q E hroom hg e0 hb r hsp => ?_⟩
  obtain ⟨G, so, as, QD, ED, hrep, wv, q, hq, hx⟩ := hsp
  have hl : vs.length = ps.length := wv.length.trans (len _ _ _ q)
  have KX : K.In s.heap := e0.mod.kin.keeps fun b o e => (e0.bs b o e).1
  have lim : s.heap.NoLimit := e0.mod.nolimit.keeps fun b o e => (e0.bs b o e).1
  have hkind : ((ps.zip us).all fun y => scope.names.lookup y.1 == some .local || scope.names.lookup y.1 == some .cell) = true := by
    rw [List.all_eq_true]
    rintro ⟨n, u⟩ hy
    rcases S.par n (List.of_mem_zip hy).1 with z | z
    · show (scope.names.lookup n == some .local || _) = true
      rw [z]; rfl
    · show (scope.names.lookup n == some .local || scope.names.lookup n == some .cell) = true
      rw [z]; rfl
  refine Att.call_fn KX lim lk hcd hroom.depth hb hkind (fun s1 x => ?_) S.co S.gen S.kind
  have I := inv_start (CX := L2.CX P w) (E := E) S hroom.hd e0 hl r x
  have rep : Rep K G so (L2.start N vs) H (startD N as) := rep_start hrep wv (nsee _ _ _ q)
  have no : ∀ a, ¬ Own (startD N as) (L2.start N vs) a := fun a ⟨i, o, e, _⟩ => by
    obtain ⟨_, _, _, n⟩ := wv.get (start_get e)
    exact n o rfl
  have body := (hd cdv A outer s H E (hroom.deeper _) hg).run [] s1 (L2.start N vs) H { nx := fun _ H' => Q .non H', rt := Q } I ⟨G, so, startD N as, _, rep, hr as QD ED q,
    ⟨fun σ' H' G' sl' p z => hq .non H' G' (.d .non) ⟨p.ex, p.rep.h, fun a o e sa => p.keep a o e sa (no a), fun a n g sa => p.frm a n g sa (no a), .non, fun _ _ e => (nomatch e), fun _ e => (nomatch e)⟩ z,
     fun _ _ _ _ _ z => z.elim, fun _ _ _ _ _ z => z.elim,
     fun v H' G' dv p z => hq v H' G' dv ⟨p.ex, p.hrep, fun a o e sa => p.keep a o e sa (no a), fun a n g sa => p.frm a n g sa (no a), p.val, fun a o e e2 => (p.new a o e e2).elim (fun k => k) fun k => absurd k (no a), (retQ_of z).1⟩ (retQ_of z).2,
     fun cls d σ' H' G' fs sl' p z1 z2 => hx cls d H' G' fs ⟨p.ex, p.rep.h, fun a o e sa => p.keep a o e sa (no a), fun a n g sa => p.frm a n g sa (no a)⟩ z1 z2⟩⟩
  refine wpAny_mono body (fun fl s' hs => ?_) fun e s' hs => hs
  cases fl with
  | ret u =>
    obtain ⟨v, σ', H', J, rv, z⟩ := hs
    exact ⟨v, H', J.os, J.bare, J.base, J.hok, rv, z⟩
  | next =>
    obtain ⟨σ', H', J, z⟩ := hs
    exact ⟨.non, H', J.os, J.bare, J.base, J.hok, rfl, z⟩
  | brk =>
    obtain ⟨_, _, _, z⟩ := hs
    exact False.elim z
  | cont =>
    obtain ⟨_, _, _, z⟩ := hs
    exact False.elim z

/-! ### how arguments come to parameters -/
inductive Sel where
  | pos (i : Nat) | kw (j : Nat) | dfl (v : V) (d : D)
def pickV (vs qs : List V) : Sel → V
  | .pos i => vs.getD i .non
  | .kw j => qs.getD j .non
  | .dfl v _ => v
def pickD (vs qs : List DV) : Sel → DV
  | .pos i => vs.getD i (.d .non)
  | .kw j => qs.getD j (.d .non)
  | .dfl _ d => .d d
/-- n positional values, keywords named ks -/
structure Bd (K : PySem.W.Frag) (fd : FuncData) (ps : List Str) (n : Nat) (ks : List Str) (sel : List Sel) : Prop where
  to : ∀ (s : Shared) (us ws : List Value) (vs qs : List V), K.In s.heap → us.length = n → ws.length = ks.length → Vals vs us → Vals qs ws → ∃ zs, BindsTo s fd ⟨us, ks.zip ws⟩ (ps.zip zs) ∧ Vals (sel.map (pickV vs qs)) zs
  dok : ∀ s ∈ sel, ∀ (v : V) (d : D), s = .dfl v d → ∀ G, DOk K G v d
theorem VsOk.getD {K : PySem.W.Frag} {G : Hp} {so : Option Addr} {H : Hp} : ∀ {vs : List V} {ds : List DV} (i : Nat), VsOk K G so H vs ds → VOk K G so H (vs.getD i .non) (ds.getD i (.d .non)) ∧ ∀ o, ds.getD i (.d .non) ≠ .own o
  | _, _, _, .nil => ⟨.non, fun _ e => (nomatch e)⟩
  | _, _, 0, .cons h n _ => ⟨h, n⟩
  | _, _, i + 1, .cons _ _ t => VsOk.getD i t
theorem VsOk.pick {K : PySem.W.Frag} {G : Hp} {so : Option Addr} {H : Hp} {vs qs : List V} {ds es : List DV} (h : VsOk K G so H vs ds) (h2 : VsOk K G so H qs es) : ∀ (sel : List Sel), (∀ s ∈ sel, ∀ (v : V) (d : D), s = .dfl v d → ∀ G, DOk K G v d) → VsOk K G so H (sel.map (pickV vs qs)) (sel.map (pickD ds es))
  | [], _ => .nil
  | .pos i :: r, k => .cons (h.getD i).1 (h.getD i).2 (VsOk.pick h h2 r fun s hs => k s (List.mem_cons_of_mem _ hs))
  | .kw j :: r, k => .cons (h2.getD j).1 (h2.getD j).2 (VsOk.pick h h2 r fun s hs => k s (List.mem_cons_of_mem _ hs))
  | .dfl v d :: r, k => .cons (k _ (List.mem_cons_self ..) v d rfl G) (fun _ e => (nomatch e)) (VsOk.pick h h2 r fun s hs => k s (List.mem_cons_of_mem _ hs))
theorem VsOk.append {K : PySem.W.Frag} {G : Hp} {so : Option Addr} {H : Hp} : ∀ {vs qs : List V} {ds es : List DV}, VsOk K G so H vs ds → VsOk K G so H qs es → VsOk K G so H (vs ++ qs) (ds ++ es)
  | _, _, _, _, .nil, s => s
  | _, _, _, _, .cons h n t, s => .cons h n (VsOk.append t s)

/-! ### calls -/
def dCall (sp : SpD) (n m : Nat) (sel : List Sel) (ta tk : TDA) : TD := fun sl Q E => ta sl (fun xs s1 => tk s1 (fun ys s2 => xs.length = n ∧ ys.length = m ∧ sp (sel.map (pickD xs ys)) (fun v => Q v s2) fun cls fs => E cls fs s2) E) E
def DK (X : Cx) (W : WX) (kws : List Keyword) (t : TDA) : Prop := PK X kws (upA X.K W t)
section
variable {X : Cx} {W : WX} {k n : Nat} {f : Addr} {fd : FuncData} {ps ks : List Str} {sp : SpD} {sel : List Sel} {x nm : Str} {p pos kpos : Pos} {e : Expr} {es : List Expr} {kws : List Keyword} {ta tk tk' : TDA} {te : TD}
theorem pk_imp {t t' : TA} (h : PK X kws t) (g : ∀ σ H R, t' σ H R → t σ H R) : PK X kws t' := ⟨fun pos pins s σ H Q I q => h.run pos pins s σ H Q I (g _ _ _ q)⟩
theorem dk_nil : DK X W [] dNil := pk_imp pk_nil fun σ H R ⟨G, so, sl, Q, E, rep, q, hq, _⟩ => hq [] H G [] sl (.refl rep) .nil q
theorem dk_cons (ha : DE X W e te) (hr : DK X W kws tk) : DK X W (⟨nm, e, kpos⟩ :: kws) (dCons te tk) := by
  refine pk_imp (pk_cons ha hr) fun σ H R ⟨G, so, sl, Q, E, rep, q, hq, hx⟩ => ?_
  refine ⟨G, so, sl, _, E, rep, q, fun x H1 G1 dx s1 p1 h1 => ?_, hx⟩
  obtain ⟨G1', p1'⟩ := p1.pub
  refine ⟨G1', so, s1, _, E, p1'.rep, h1, fun vs H2 G2 ds s2 p2 w h2 => ?_, hx.step p1'.toPost⟩
  exact hq (x :: vs) H2 G2 (pubV dx :: ds) s2 (p1'.toPost.trans p2) (.cons (p1'.over p2) (pubV_not dx) w) h2
/-- the callee runs -/
theorem run_fnG {pins : List (Addr × Obj)} {σ : L2.St} {H G : Hp} {so : Option Addr} {sl : DSt} {s : Shared} {Q : VK} {us ws : List Value} {vs qs : List V} {ds es : List DV} {Q' : DV → DSt → Prop} {E : XP} (F : FnG X.prog X.w X.K X.mg X.base k f fd ps sp) (hr : Room k X.A) (hg : X.A.guards = some []) (tk : Takes X W) (hb : Bd X.K fd ps n ks sel)
    (I : Inv X pins σ H s) (rep : Rep X.K G so σ H sl) (r : Vals vs us) (r2 : Vals qs ws) (w : VsOk X.K G so H vs ds) (w2 : VsOk X.K G so H qs es) (l1 : ds.length = n) (l2 : es.length = ks.length)
    (q : sp (sel.map (pickD ds es)) (fun v => Q' v sl) fun cls fs => E cls fs sl) (hq : ∀ v H' G' dv sl', PostE X.K G so σ H sl v H' G' dv sl' → Q' dv sl' → Q v H') (hx : XOk X.K W G so σ H sl E) :
    wpAny (model X.prog X.w) X.A (call (.ref f) us (ks.zip ws)) (EP X pins σ Q) X.xe s := by
  obtain ⟨zs, bt, rz⟩ := hb.to s us ws vs qs I.kIn (by rw [← r.length, w.length, l1]) (by rw [← r2.length, w2.length, l2]) r r2
  have pk := w.pick w2 sel hb.dok
  refine wpAny_call (codeAny_mono (F.run X.A X.stack s H ⟨us, ks.zip ws⟩ zs (sel.map (pickV vs qs)) Q (fun cls d H' => W cls d σ H') hr hg I.env0 bt rz ⟨G, so, _, _, _, rep.h, pk, q, fun v H' G' dv pv z => hq v H' G' dv sl (pv.slots rep) z, fun cls d H' G' fs ph z1 z2 => ?_⟩) fun r s' hz => ?_)
  · have pn : PostV X.K G so H .non H' G' (.d .non) := ⟨ph.ex, ph.hrep, ph.keep, ph.frm, .non, fun _ _ e => (nomatch e), fun _ e => (nomatch e)⟩
    exact hx cls d H' G' fs sl (pn.slots rep).toPost z1 z2
  · cases r with
    | error e => exact tk e s' (XE.of_call I (fun _ _ _ z => z) hz)
    | ok fl =>
      cases fl with
      | ret u => exact I.after hz
      | next => exact False.elim hz
      | brk => exact False.elim hz
      | cont => exact False.elim hz
theorem de_call (F : FnG X.prog X.w X.K X.mg X.base k f fd ps sp) (hr : Room k X.A) (hgd : X.A.guards = some []) (tk : Takes X W) (hb : Bd X.K fd ps n [] sel) (hg : Gl X x) (hm : X.mg x = some (.ref f)) (hk : PySem.W.keepIn X.K (.ref f) = true)
    (ha : DA X W (e :: es) ta) (hdb : (x == ("__debug__" : Str)) = false := by decide) (he : starEach (e :: es) X.env = (false, eval e X.env) :: starEach es X.env := by rfl) (hpl : (backTo pos (starEach es X.env)).any (·.1) = false := by rfl) :
    DE X W (.Call (.Name x p) (e :: es) [] pos) (dCall sp n 0 sel ta dNil) := by
  refine ⟨fun pins s σ H Q I ⟨G, so, sl, Q', E, rep, q, hq, hx⟩ => wpAny_Call_Name_kw (ld_glob I hg hm ?_ hdb)⟩
  refine PySem.W.callWith_K (h₀ := X.base) I.ok.mod.kin hk (thn (ha.run pos pins s σ H (fun vs H1 => ∃ G1 ds s1, Post X.K G so σ H sl H1 G1 s1 ∧ VsOk X.K G1 so H1 vs ds ∧ ds.length = n ∧ sp (sel.map (pickD ds [])) (fun v => Q' v s1) fun cls fs => E cls fs s1) I
    ⟨G, so, sl, _, E, rep, q, fun vs H1 G1 ds s1 p1 w z => ⟨G1, ds, s1, p1, w, z.1, z.2.2⟩, hx⟩) fun us s1 ⟨vs, H1, I1, r, G1, ds, sl1, p1, w, l1, z⟩ => ⟨I1.kIn, ?_⟩) he hpl
  exact run_fnG (ws := []) (qs := []) (es := []) F hr hgd tk hb I1 p1.rep r .nil w .nil l1 rfl z (fun v H' G' dv sl' pe z' => hq v H' G' dv sl' (p1.thenE pe) z') (hx.step p1)
theorem de_callK (F : FnG X.prog X.w X.K X.mg X.base k f fd ps sp) (hr : Room k X.A) (hgd : X.A.guards = some []) (tk : Takes X W) (hb : Bd X.K fd ps n ks sel) (hg : Gl X x) (hm : X.mg x = some (.ref f)) (hk : PySem.W.keepIn X.K (.ref f) = true)
    (ha : DA X W (e :: es) ta) (hkw : DK X W kws tk') (hall : (backToKw pos (keywordEach kws X.env)).all (·.1.isSome) = true := by rfl) (hks : (backToKw pos (keywordEach kws X.env)).filterMap (·.1) = ks := by rfl) (hdb : (x == ("__debug__" : Str)) = false := by decide)
    (he : starEach (e :: es) X.env = (false, eval e X.env) :: starEach es X.env := by rfl) (hpl : ((backTo pos (starEach (e :: es) X.env)).any (·.1) || (backToKw pos (keywordEach kws X.env)).any (·.1.isNone)) = false := by rfl) :
    DE X W (.Call (.Name x p) (e :: es) kws pos) (dCall sp n ks.length sel ta tk') := by
  refine ⟨fun pins s σ H Q I ⟨G, so, sl, Q', E, rep, q, hq, hx⟩ => wpAny_Call_Name_kw (ld_glob I hg hm ?_ hdb)⟩
  refine PySem.W.callWith_KW (h₀ := X.base) I.ok.mod.kin hk hall (thn (ha.run pos pins s σ H (fun vs H1 => ∃ G1 ds s1, Post X.K G so σ H sl H1 G1 s1 ∧ VsOk X.K G1 so H1 vs ds ∧ tk' s1 (fun ys s2 => ds.length = n ∧ ys.length = ks.length ∧ sp (sel.map (pickD ds ys)) (fun v => Q' v s2) fun cls fs => E cls fs s2) E) I
    ⟨G, so, sl, _, E, rep, q, fun vs H1 G1 ds s1 p1 w z => ⟨G1, ds, s1, p1, w, z⟩, hx⟩) fun us s1 ⟨vs, H1, I1, r, G1, ds, sl1, p1, w, z⟩ => ?_) hpl he
  refine thn (hkw.run pos pins s1 σ H1 (fun qs H2 => ∃ G2 es s2, Post X.K G1 so σ H1 sl1 H2 G2 s2 ∧ VsOk X.K G2 so H2 qs es ∧ ds.length = n ∧ es.length = ks.length ∧ sp (sel.map (pickD ds es)) (fun v => Q' v s2) fun cls fs => E cls fs s2) I1
    ⟨G1, so, sl1, _, E, p1.rep, z, fun qs H2 G2 es s2 p2 w2 z => ⟨G2, es, s2, p2, w2, z⟩, hx.step p1⟩) fun ws s2 ⟨qs, H2, I2, r2, G2, es, sl2, p2, w2, l1, l2, z⟩ => ⟨I2.kIn, ?_⟩
  rw [hks]
  exact run_fnG F hr hgd tk hb I2 p2.rep r r2 (w.keep p2.ex p2.keep) w2 l1 l2 z (fun v H' G' dv sl' pe z' => hq v H' G' dv sl' ((p1.trans p2).thenE pe) z') (hx.step (p1.trans p2))
theorem de_callK0 (F : FnG X.prog X.w X.K X.mg X.base k f fd ps sp) (hr : Room k X.A) (hgd : X.A.guards = some []) (tk : Takes X W) (hb : Bd X.K fd ps 0 ks sel) (hg : Gl X x) (hm : X.mg x = some (.ref f)) (hk : PySem.W.keepIn X.K (.ref f) = true)
    (hkw : DK X W kws tk') (hall : (backToKw pos (keywordEach kws X.env)).all (·.1.isSome) = true := by rfl) (hks : (backToKw pos (keywordEach kws X.env)).filterMap (·.1) = ks := by rfl) (hdb : (x == ("__debug__" : Str)) = false := by decide)
    (hpl : ((backTo pos (starEach [] X.env)).any (·.1) || (backToKw pos (keywordEach kws X.env)).any (·.1.isNone)) = false := by rfl) :
    DE X W (.Call (.Name x p) [] kws pos) (dCall sp 0 ks.length sel dNil tk') := by
  refine ⟨fun pins s σ H Q I ⟨G, so, sl, Q', E, rep, q, hq, hx⟩ => wpAny_Call_Name_kw (ld_glob I hg hm ?_ hdb)⟩
  refine PySem.W.callWith_KW0 (h₀ := X.base) I.ok.mod.kin hk hall ?_ hpl
  refine thn (hkw.run pos pins s σ H (fun qs H2 => ∃ G2 es s2, Post X.K G so σ H sl H2 G2 s2 ∧ VsOk X.K G2 so H2 qs es ∧ es.length = ks.length ∧ sp (sel.map (pickD [] es)) (fun v => Q' v s2) fun cls fs => E cls fs s2) I
    ⟨G, so, sl, _, E, rep, q, fun qs H2 G2 es s2 p2 w2 z => ⟨G2, es, s2, p2, w2, z.2.1, z.2.2⟩, hx⟩) fun ws s2 ⟨qs, H2, I2, r2, G2, es, sl2, p2, w2, l2, z⟩ => ⟨I2.kIn, ?_⟩
  rw [hks]
  exact run_fnG (us := []) (vs := []) (ds := []) F hr hgd tk hb I2 p2.rep .nil r2 .nil w2 rfl l2 z (fun v H' G' dv sl' pe z' => hq v H' G' dv sl' (p2.thenE pe) z') (hx.step p2)
theorem de_call0 (F : FnG X.prog X.w X.K X.mg X.base k f fd ps sp) (hr : Room k X.A) (hgd : X.A.guards = some []) (tk : Takes X W) (hb : Bd X.K fd ps 0 [] sel) (hg : Gl X x) (hm : X.mg x = some (.ref f)) (hk : PySem.W.keepIn X.K (.ref f) = true)
    (hdb : (x == ("__debug__" : Str)) = false := by decide) : DE X W (.Call (.Name x p) [] [] pos) (dCall sp 0 0 sel dNil dNil) := by
  refine ⟨fun pins s σ H Q I ⟨G, so, sl, Q', E, rep, q, hq, hx⟩ => wpAny_Call_Name_kw (ld_glob I hg hm ?_ hdb)⟩
  exact PySem.W.callWith_K0 I.kIn hk (run_fnG (us := []) (vs := []) (ds := []) (ws := []) (qs := []) (es := []) F hr hgd tk hb I rep .nil .nil .nil .nil rfl rfl q.2.2 hq hx)
end
end DL

set_option Elab.async false
set_option linter.all false
set_option maxRecDepth 100000
set_option autoImplicit false
set_option maxHeartbeats 2000000
namespace DL
open PySem PySem.Spec PyProof.Rows L2

/-! ### built-ins called by their names -/
section
variable {X : Cx} {W : WX} {x : Str} {p pos : Pos} {e : Expr} {es : List Expr} {ta : TDA} {id T : String} {r : List V → Hp → VK → Prop} {rd : List DV → (DV → Prop) → Prop}
theorem de_callB (hc : CallR X (.builtin id) r) (hr : CallSem X.K r rd) (hg : Gl X x) (hm : X.mg x = none) (hv : bootBuiltins x = some (.builtin id)) (ha : DA X W (e :: es) ta) (hn : x ≠ "__name__" := by decide) (hdb : (x == ("__debug__" : Str)) = false := by decide)
    (he : starEach (e :: es) X.env = (false, eval e X.env) :: starEach es X.env := by rfl) (hpl : (backTo pos (starEach es X.env)).any (·.1) = false := by rfl) : DE X W (.Call (.Name x p) (e :: es) [] pos) (dCB rd ta) := pe_imp (pe_callB hc hg hm hv ha hn hdb he hpl) fun _ _ _ h => up_cb hr h
theorem de_callT (hc : CallR X (.type T) r) (hr : CallSem X.K r rd) (hg : Gl X x) (hm : X.mg x = none) (hv : bootBuiltins x = some (.type T)) (ha : DA X W (e :: es) ta) (hn : x ≠ "__name__" := by decide) (hdb : (x == ("__debug__" : Str)) = false := by decide)
    (he : starEach (e :: es) X.env = (false, eval e X.env) :: starEach es X.env := by rfl) (hpl : (backTo pos (starEach es X.env)).any (·.1) = false := by rfl) : DE X W (.Call (.Name x p) (e :: es) [] pos) (dCB rd ta) := pe_imp (pe_callTy hc hg hm hv ha hn hdb he hpl) fun _ _ _ h => up_cb hr h
/-- a module's name for a built-in function -/
theorem de_callF (hc : CallR X (.builtin id) r) (hr : CallSem X.K r rd) (hg : Gl X x) (hm : X.mg x = some (.builtin id)) (ha : DA X W (e :: es) ta) (hdb : (x == ("__debug__" : Str)) = false := by decide)
    (he : starEach (e :: es) X.env = (false, eval e X.env) :: starEach es X.env := by rfl) (hpl : (backTo pos (starEach es X.env)).any (·.1) = false := by rfl) : DE X W (.Call (.Name x p) (e :: es) [] pos) (dCB rd ta) := pe_imp (pe_callBfun hc hg hm ha hdb he hpl) fun _ _ _ h => up_cb hr h
/-- a built-in class as a value; a constant of the module's -/
theorem de_ty {T : String} (hg : Gl X x) (hm : X.mg x = none) (hv : bootBuiltins x = some (.type T)) (hn : x ≠ "__name__" := by decide) (hdb : (x == ("__debug__" : Str)) = false := by decide) : DE X W (.Name x pos) (dC (.raw (.ty T))) := de_c (pe_bltn (v := .ty T) hg hm hv rfl hn hdb) fun _ => .raw _
theorem de_glob {v : V} {u : Value} {d : D} (hg : Gl X x) (hm : X.mg x = some u) (r : RelV v u) (hd : ∀ G, DOk X.K G v d) (hdb : (x == ("__debug__" : Str)) = false := by decide) : DE X W (.Name x pos) (dC d) := de_c (pe_glob hg hm r hdb) hd
end

/-! ### len, int, str, abs, list, tuple, all, any -/
@[irreducible] def lenR : List DV → (DV → Prop) → Prop
  | [.d (.str z)], Q => z.length ≤ szl ∧ Q (.d (.int z.length))
  | [.d (.tup ds)], Q => Q (.d (.int ds.length))
  | [v], Q => match v.items with
    | some ds => Q (.d (.int ds.length))
    | none => False
  | _, _ => False
@[irreducible] def intC : List DV → (DV → Prop) → Prop
  | [.d (.int i)], Q => Q (.d (.int i))
  | _, _ => False
@[irreducible] def absR : List DV → (DV → Prop) → Prop
  | [.d (.int i)], Q => Q (.d (.int (if i < 0 then -i else i)))
  | _, _ => False
@[irreducible] def strR : List DV → (DV → Prop) → Prop
  | [.d (.int i)], Q => i.natAbs.log2 < 1920 ∧ Q (.d (.str (toString i)))
  | _, _ => False
@[irreducible] def listR : List DV → (DV → Prop) → Prop
  | [.d (.tup ds)], Q => Q (.own (.lst ds))
  | [v], Q => match v.items with
    | some ds => Q (.own (.lst ds))
    | none => False
  | _, _ => False
@[irreducible] def tupleR : List DV → (DV → Prop) → Prop
  | [.d (.tup ds)], Q => Q (.d (.tup ds))
  | [v], Q => match v.items with
    | some ds => Q (.d (.tup ds))
    | none => False
  | _, _ => False
def bools : List D → Option (List Bool)
  | [] => some []
  | .bl b :: r => (bools r).map (b :: ·)
  | _ => none
@[irreducible] def allR : List DV → (DV → Prop) → Prop
  | [v], Q => match v.items with
    | some ds => match bools ds with
      | some bs => Q (.d (.bl (bs.all id)))
      | none => False
    | none => False
  | _, _ => False
@[irreducible] def gcdR : List DV → (DV → Prop) → Prop
  | [.d (.int i), .d (.int j)], Q => Q (.d (.int (Int.gcd i j)))
  | _, _ => False
section
variable {K : PySem.W.Frag} {X : Cx}
def rLen1 (K : PySem.W.Frag) : List V → Hp → VK → Prop := fun xs H Q => ∃ x n, xs = [x] ∧ LenV K x H n ∧ Q (.int n) H
theorem sem_len : CallSem K (rLen1 K) lenR := by
  intro G so H xs dxs Q R h w q k
  unfold lenR at q
  split at q
  · obtain ⟨v, rfl, w1, _⟩ := w.v1
    cases w1
    exact ⟨_, _, rfl, ⟨by rw [← szl_eq]; exact q.1, rfl⟩, k _ H G _ (.dat h (.int _)) q.2⟩
  · obtain ⟨v, rfl, w1, _⟩ := w.v1
    obtain ⟨a, vs, rfl, g1, a1⟩ := VOk.tup h w1
    exact ⟨_, _, rfl, .inr ⟨vs, g1, rfl⟩, k _ H G _ (.dat h (by rw [a1.length]; exact .int _)) q⟩
  · obtain ⟨v, rfl, w1, _⟩ := w.v1
    split at q
    · rename_i e
      obtain ⟨a, vs, rfl, g1, a1⟩ := VOk.list h w1 e
      exact ⟨_, _, rfl, .inl ⟨vs, SqL.of g1, rfl⟩, k _ H G _ (.dat h (by rw [a1.length]; exact .int _)) q⟩
    · exact q.elim
  · exact q.elim
theorem sem_int : CallSem K (fun xs H Q => (∃ i, xs = [.int i] ∧ Q (.int i) H) ∨ ∃ k, xs = [.bl k] ∧ Q (.int (if k then 1 else 0)) H) intC := by
  intro G so H xs dxs Q R h w q k
  unfold intC at q
  split at q
  · obtain ⟨v, rfl, w1, _⟩ := w.v1
    cases w1
    exact .inl ⟨_, rfl, k _ H G _ (.dat h (.int _)) q⟩
  · exact q.elim
theorem sem_abs : CallSem K (fun xs H Q => ∃ i, xs = [.int i] ∧ Q (.int (if i < 0 then -i else i)) H) absR := by
  intro G so H xs dxs Q R h w q k
  unfold absR at q
  split at q
  · obtain ⟨v, rfl, w1, _⟩ := w.v1
    cases w1
    exact ⟨_, rfl, k _ H G _ (.dat h (.int _)) q⟩
  · exact q.elim
theorem sem_str : CallSem K (fun xs H Q => ∃ i, xs = [.int i] ∧ i.natAbs.log2 < 1920 ∧ Q (.str (toString i)) H) strR := by
  intro G so H xs dxs Q R h w q k
  unfold strR at q
  split at q
  · obtain ⟨v, rfl, w1, _⟩ := w.v1
    cases w1
    exact ⟨_, rfl, q.1, k _ H G _ (.dat h (.str _)) q.2⟩
  · exact q.elim
theorem sem_list : CallSem K (fun xs H Q => ∃ p ys, xs = [.ref p] ∧ (SqL K H p ys ∨ SqT K H p ys) ∧ ∀ l, H l = none → Q (.ref l) (upd H l (.lst ys))) listR := by
  intro G so H xs dxs Q R h w q k
  unfold listR at q
  split at q
  · obtain ⟨v, rfl, w1, _⟩ := w.v1
    obtain ⟨a, vs, rfl, g1, a1⟩ := VOk.tup h w1
    exact ⟨a, vs, rfl, .inr g1, fun l n => k _ _ G _ (.list h n a1) q⟩
  · obtain ⟨v, rfl, w1, _⟩ := w.v1
    split at q
    · rename_i e
      obtain ⟨a, vs, rfl, g1, a1⟩ := VOk.list h w1 e
      exact ⟨a, vs, rfl, .inl (SqL.of g1), fun l n => k _ _ G _ (.list h n a1) q⟩
    · exact q.elim
  · exact q.elim
theorem sem_tuple : CallSem K (fun xs H Q => ∃ p ys, xs = [.ref p] ∧ ((SqL K H p ys ∧ ∀ l, H l = none → Q (.ref l) (upd H l (.tup ys))) ∨ (SqT K H p ys ∧ Q (.ref p) H))) tupleR := by
  intro G so H xs dxs Q R h w q k
  unfold tupleR at q
  split at q
  · obtain ⟨v, rfl, w1, _⟩ := w.v1
    obtain ⟨a, vs, rfl, g1, a1⟩ := VOk.tup h w1
    exact ⟨a, vs, rfl, .inr ⟨g1, k _ _ G _ (.dat h w1) q⟩⟩
  · obtain ⟨v, rfl, w1, _⟩ := w.v1
    split at q
    · rename_i e
      obtain ⟨a, vs, rfl, g1, a1⟩ := VOk.list h w1 e
      exact ⟨a, vs, rfl, .inl ⟨SqL.of g1, fun l n => k _ _ _ _ (.tuple h n a1) q⟩⟩
    · exact q.elim
  · exact q.elim
theorem bools_ok {G : Hp} : ∀ {vs : List V} {ds : List D} {bs : List Bool}, DAll K G vs ds → bools ds = some bs → vs = bs.map V.bl
  | _, _, _, .nil, e => by cases e; rfl
  | _, _, _, .cons (d := .bl b) h t, e => by
    unfold bools at e
    rename_i ds0
    cases z : bools ds0 with
    | none => rw [z] at e; cases e
    | some ys => rw [z] at e; cases e; cases h; rw [bools_ok t z]; rfl
  | _, _, _, .cons (d := .non) h t, e => by cases e
  | _, _, _, .cons (d := .int _) h t, e => by cases e
  | _, _, _, .cons (d := .str _) h t, e => by cases e
  | _, _, _, .cons (d := .lst _) h t, e => by cases e
  | _, _, _, .cons (d := .tup _) h t, e => by cases e
  | _, _, _, .cons (d := .ins _ _) h t, e => by cases e
  | _, _, _, .cons (d := .raw _) h t, e => by cases e
theorem sem_all : CallSem K (rAll K) allR := by
  intro G so H xs dxs Q R h w q k
  unfold allR at q
  split at q
  · obtain ⟨v, rfl, w1, _⟩ := w.v1
    split at q
    · rename_i e
      obtain ⟨a, vs, rfl, g1, a1⟩ := VOk.list h w1 e
      split at q
      · rename_i bs eb
        exact ⟨a, bs, rfl, by rw [← bools_ok a1 eb]; exact SqL.of g1, k _ H G _ (.dat h (.bl _)) q⟩
      · exact q.elim
    · exact q.elim
  · exact q.elim
theorem sem_gcd : CallSem K rGcd gcdR := by
  intro G so H xs dxs Q R h w q k
  unfold gcdR at q
  split at q
  · obtain ⟨v, v', rfl, w1, w2, _⟩ := w.v2
    cases w1; cases w2
    exact ⟨_, _, rfl, k _ H G _ (.dat h (.int _)) q⟩
  · exact q.elim

/-! ### isinstance -/
/-- the name of a tree's built-in class -/
def tyD : D → Option String
  | .non => some "NoneType"
  | .bl _ => some "bool"
  | .int _ => some "int"
  | .str _ => some "str"
  | .lst _ => some "list"
  | .tup _ => some "tuple"
  | _ => none
@[irreducible] def isiR : List DV → (DV → Prop) → Prop
  | [v, .d (.raw (.ty T))], Q => match v.dat with
    | some d => match tyD d with
      | some t => match kitB t T with
        | some b => Q (.d (.bl b))
        | none => False
      | none => False
    | none => False
  | _, _ => False
theorem ty_ok {G H : Hp} {so : Option Addr} {v : V} {dv : DV} {d : D} {t : String} (h : HRep K G so H) (w : VOk K G so H v dv) (e : dv.dat = some d) (q : tyD d = some t) : TyX K H v (.type t) := by
  have own : ∀ {a : Addr} {o : OO}, OwnOk K G H a o → tyD (pubO o) = some t → TyX K H (.ref a) (.type t) := fun {a o} k q => by
    cases o with
    | lst ds => obtain ⟨vs, e1, _⟩ := k; cases q; exact .base (.lst e1)
  cases dv with
  | src => cases e
  | own o => cases e; obtain ⟨a, rfl, _, _, k⟩ := w; exact own k q
  | bor o => cases e; obtain ⟨a, rfl, _, k⟩ := w; exact own k q
  | see o => cases e; obtain ⟨a, rfl, _, k⟩ := w; exact own k q
  | d x =>
    cases e
    cases w with
    | non => cases q; exact .base .non
    | bl b => cases q; exact .base (.bl b)
    | int i => cases q; exact .base (.int i)
    | str z => cases q; exact .base (.str z)
    | lst g _ => cases q; exact .base (.lst (h.ex _ _ g))
    | tup g _ =>
      cases q
      rcases g with (g | ⟨o, g⟩) | ⟨o, its, n, g, c, _⟩
      · exact .base (.tup (h.ex _ _ g))
      · exact .fTuple (h.ex _ _ g)
      · exact .kTuple g c
    | ins _ _ _ => cases q
    | raw _ => cases q
theorem sem_isi : CallSem K (rIsi K) isiR := by
  intro G so H xs dxs Q R h w q k
  unfold isiR at q
  split at q
  · obtain ⟨v, v', rfl, w1, w2, _⟩ := w.v2
    cases w2
    split at q
    · rename_i d e
      split at q
      · rename_i t et
        split at q
        · rename_i b eb
          exact ⟨_, _, _, _, b, rfl, .ty _, ty_ok h w1 e et, kit_ty eb, k _ H G _ (.dat h (.bl _)) q⟩
        · exact q.elim
      · exact q.elim
    · exact q.elim
  · exact q.elim

/-! ### in -/
def flatD : D → Bool
  | .non => true
  | .bl _ => true
  | .int _ => true
  | .str _ => true
  | _ => false
def eqF : D → D → Bool
  | .non, .non => true
  | .bl a, .bl b => a == b
  | .bl a, .int b => (if a then 1 else 0) == b
  | .int a, .bl b => a == (if b then 1 else 0)
  | .int a, .int b => a == b
  | .str a, .str b => a == b
  | _, _ => false
def inF (x : D) (ds : List D) : Bool := ds.any fun y => eqF y x
@[irreducible] def inSeqR (neg : Bool) : DV → DV → (DV → Prop) → Prop
  | .d x, .d (.tup ds), Q => flatD x = true ∧ ds.all flatD = true ∧ Q (.d (.bl (if neg then !inF x ds else inF x ds)))
  | .d x, y, Q => match y.items with
    | some ds => flatD x = true ∧ ds.all flatD = true ∧ Q (.d (.bl (if neg then !inF x ds else inF x ds)))
    | none => False
  | _, _, _ => False
@[irreducible] def inR (neg : Bool) : DV → DV → (DV → Prop) → Prop
  | .d (.str w), .d (.str z), Q => match w.cps.toList with
    | [c] => Q (.d (.bl (if neg then !decide (c ∈ z.cps.toList) else decide (c ∈ z.cps.toList))))
    | _ => False
  | x, y, Q => inSeqR neg x y Q
theorem flat_ok {G : Hp} {v : V} {d : D} (w : DOk K G v d) (f : flatD d = true) : flatV v = true := by
  cases w <;> first | rfl | (exact absurd f (by simp [flatD]))
theorem eqF_ok {G : Hp} {v u : V} {d e : D} (w : DOk K G v d) (w2 : DOk K G u e) (f : flatD d = true) (f2 : flatD e = true) : eqV v u = eqF d e := by
  cases w <;> cases w2 <;> first | rfl | (exfalso; revert f f2; simp [flatD]; done)
theorem flat_all {G : Hp} : ∀ {vs : List V} {ds : List D}, DAll K G vs ds → ds.all flatD = true → vs.all flatV = true
  | _, _, .nil, _ => rfl
  | _, _, .cons h t, f => by
    rw [List.all_cons, Bool.and_eq_true] at f
    rw [List.all_cons, flat_ok h f.1, flat_all t f.2]; rfl
theorem in_ok {G : Hp} {v : V} {x : D} (w : DOk K G v x) (f : flatD x = true) : ∀ {vs : List V} {ds : List D}, DAll K G vs ds → ds.all flatD = true → inV v vs = inF x ds
  | _, _, .nil, _ => rfl
  | _, _, .cons h t, g => by
    rw [List.all_cons, Bool.and_eq_true] at g
    have ih := in_ok w f t g.2
    unfold inV inF at ih ⊢
    rw [List.any_cons, List.any_cons, eqF_ok h w g.1 f, ih]
theorem sem_inSeq (neg : Bool) : OpSem K (rIn K neg) (inSeqR neg) := by
  intro G so H x y dx dy Q R h wx wy q k
  unfold inSeqR at q
  split at q
  · obtain ⟨a, vs, rfl, g1, a1⟩ := VOk.tup h wy
    exact ⟨a, vs, rfl, .inr g1, flat_ok wx q.1, flat_all a1 q.2.1, by rw [in_ok wx q.1 a1 q.2.1]; exact k _ H G _ (.dat h (.bl _)) q.2.2⟩
  · split at q
    · rename_i e
      obtain ⟨a, vs, rfl, g1, a1⟩ := VOk.list h wy e
      exact ⟨a, vs, rfl, .inl (SqL.of g1), flat_ok wx q.1, flat_all a1 q.2.1, by rw [in_ok wx q.1 a1 q.2.1]; exact k _ H G _ (.dat h (.bl _)) q.2.2⟩
    · exact q.elim
  · exact q.elim
def rInAll (K : PySem.W.Frag) : R2 := fun x y H Q => (∃ (c : Nat) (z : Str), x = .str ⟨#[c]⟩ ∧ y = .str z ∧ Q (.bl (decide (c ∈ z.cps.toList))) H) ∨ rIn K false x y H Q
def rNotInAll (K : PySem.W.Frag) : R2 := fun x y H Q => (∃ (c : Nat) (z : Str), x = .str ⟨#[c]⟩ ∧ y = .str z ∧ Q (.bl (!decide (c ∈ z.cps.toList))) H) ∨ rIn K true x y H Q
theorem op_inAll : OpR X (compareOp .In) (rInAll X.K) := OpR.or op_in_sign op_in_seq
theorem op_notInAll : OpR X (compareOp .NotIn) (rNotInAll X.K) := OpR.or op_notIn_sign op_notIn_seq
theorem one_sign {w : Str} {c : Nat} (e : w.cps.toList = [c]) : w = ⟨#[c]⟩ := by
  obtain ⟨a⟩ := w
  have : a = #[c] := by
    apply Array.toList_inj.mp
    exact e
  rw [this]
theorem sem_in : OpSem K (rInAll K) (inR false) := by
  intro G so H x y dx dy Q R h wx wy q k
  unfold inR at q
  split at q
  · split at q
    · rename_i c e
      cases wx; cases wy
      exact .inl ⟨c, _, by rw [one_sign e], rfl, k _ H G _ (.dat h (.bl _)) q⟩
    · exact q.elim
  · exact .inr (sem_inSeq false G so H x y dx dy Q R h wx wy q k)
theorem sem_notIn : OpSem K (rNotInAll K) (inR true) := by
  intro G so H x y dx dy Q R h wx wy q k
  unfold inR at q
  split at q
  · split at q
    · rename_i c e
      cases wx; cases wy
      exact .inl ⟨c, _, by rw [one_sign e], rfl, k _ H G _ (.dat h (.bl _)) q⟩
    · exact q.elim
  · exact .inr (sem_inSeq true G so H x y dx dy Q R h wx wy q k)

/-! ### a[i] -/
@[irreducible] def ixR : DV → DV → (DV → Prop) → Prop
  | .d (.tup ds), .d (.int i), Q => match atI ds i with
    | some d => Q (.d d)
    | none => False
  | .d (.str z), .d (.int i), Q => z.length ≤ szl ∧ match atI z.cps.toList i with
    | some c => Q (.d (.str ⟨#[c]⟩))
    | none => False
  | v, .d (.int i), Q => match v.items with
    | some ds => match atI ds i with
      | some d => Q (.d d)
      | none => False
    | none => False
  | _, _, _ => False
theorem at_all {G : Hp} {vs : List V} {ds : List D} {i : Int} {d : D} (a : DAll K G vs ds) (e : atI ds i = some d) : ∃ v, atI vs i = some v ∧ DOk K G v d := by
  unfold atI at e ⊢
  rw [a.length]
  cases z : ixN ds.length i with
  | none => rw [z] at e; cases e
  | some j => rw [z] at e; exact a.get e
theorem sem_ix : OpSem K (rIx K) ixR := by
  intro G so H x y dx dy Q R h wx wy q k
  unfold ixR at q
  split at q
  · split at q
    · rename_i e
      obtain ⟨a, vs, rfl, g1, a1⟩ := VOk.tup h wx
      cases wy
      obtain ⟨v, e1, e2⟩ := at_all a1 e
      exact .inr (.inl ⟨a, vs, _, v, rfl, rfl, g1, e1, k _ H G _ (.dat h e2) q⟩)
    · exact q.elim
  · cases wx; cases wy
    obtain ⟨q1, q⟩ := q
    split at q
    · rename_i e
      exact .inr (.inr ⟨_, _, _, rfl, rfl, by rw [← szl_eq]; exact q1, e, k _ H G _ (.dat h (.str _)) q⟩)
    · exact q.elim
  · split at q
    · rename_i e
      split at q
      · rename_i e0
        obtain ⟨a, vs, rfl, g1, a1⟩ := VOk.list h wx e
        cases wy
        obtain ⟨v, e1, e2⟩ := at_all a1 e0
        exact .inl ⟨a, vs, _, v, rfl, rfl, SqL.of g1, e1, k _ H G _ (.dat h e2) q⟩
      · exact q.elim
    · exact q.elim
  · exact q.elim
end
end DL

set_option Elab.async false
set_option linter.all false
set_option maxRecDepth 100000
set_option autoImplicit false
set_option maxHeartbeats 2000000
namespace DL
open PySem PySem.Spec PyProof.Rows L2

/-! ### a[lo:hi] -/
abbrev TDO := DSt → (Option Int → DSt → Prop) → XP → Prop
def dNoPart : TDO := fun sl Q _ => Q none sl
def dPart (te : TD) : TDO := fun sl Q E => te sl (fun x s1 => match x with
  | .d (.int i) => Q (some i) s1
  | _ => False) E
def upO (K : PySem.W.Frag) (W : WX) (t : TDO) : TO := fun σ H R => ∃ G so sl Q E, Rep K G so σ H sl ∧ t sl Q E ∧ (∀ o H' G' sl', Post K G so σ H sl H' G' sl' → Q o sl' → R o H') ∧ XOk K W G so σ H sl E
def DO' (X : Cx) (W : WX) (e : Option Expr) (t : TDO) : Prop := PO X e (upO X.K W t)
def cut {α : Type} (xs : List α) (lo hi : Option Int) : List α := (xs.drop (HT.sIx xs.length 0 lo)).take (HT.sIx xs.length xs.length hi - HT.sIx xs.length 0 lo)
@[irreducible] def slR (v : DV) (lo hi : Option Int) (Q : DV → Prop) : Prop := match v with
  | .d (.tup ds) => Q (.d (.tup (cut ds lo hi)))
  | .d (.str z) => z.length ≤ szl ∧ Q (.d (.str (cutS z lo hi)))
  | v => match v.items with
    | some ds => Q (.own (.lst (cut ds lo hi)))
    | none => False
def dSl (te : TD) (tl th : TDO) : TD := fun sl Q E => te sl (fun x s1 => tl s1 (fun lo s2 => th s2 (fun hi s3 => slR x lo hi fun z => Q z s3) E) E) E
section
variable {X : Cx} {W : WX} {e : Expr} {te : TD} {tl th : TDO} {pos p2 : Pos} {lo hi : Option Expr} {K : PySem.W.Frag}
theorem po_imp {o : Option Expr} {t t' : TO} (h : PO X o t) (f : ∀ σ H R, t' σ H R → t σ H R) : PO X o t' := ⟨fun pins s σ H Q I q => h.run pins s σ H Q I (f _ _ _ q)⟩
theorem do_none : DO' X W none dNoPart := po_imp po_none fun σ H R ⟨G, so, sl, Q, E, rep, q, hq, hx⟩ => hq none H G sl (.refl rep) q
theorem do_some (h : DE X W e te) : DO' X W (some e) (dPart te) := po_imp (po_some h) fun σ H R ⟨G, so, sl, Q, E, rep, q, hq, hx⟩ => ⟨G, so, sl, _, E, rep, q, fun v H1 G1 dv s1 p q1 => by
    split at q1
    · have w := p.val
      cases w
      exact ⟨_, rfl, hq _ H1 G1 s1 p.toPost q1⟩
    · exact q1.elim, hx⟩
theorem cut_all {G : Hp} {vs : List V} {ds : List D} {lo hi : Option Int} (a : DAll K G vs ds) : DAll K G (cutV vs lo hi) (cut ds lo hi) := by
  unfold cutV cut
  rw [a.length]
  exact (a.drop _).take _
def rSlAll (K : PySem.W.Frag) : V → Option Int → Option Int → Hp → VK → Prop := fun x lo hi H Q => rSlA K x lo hi H Q ∨ (rSlS x lo hi H Q ∨ rSlL K x lo hi H Q)
theorem sl_all : SlR X (rSlAll X.K) := SlR.or sl_tupA (SlR.or sl_str sl_list)
theorem cut_whole {α : Type} {xs : List α} {lo hi : Option Int} (h : HT.sIx xs.length 0 lo = 0 ∧ HT.sIx xs.length xs.length hi = xs.length) : cut xs lo hi = xs := by
  unfold cut
  rw [h.1, h.2]
  simp
theorem sem_sl {G : Hp} {so : Option Addr} {H : Hp} {x : V} {dx : DV} {lo hi : Option Int} {Q : DV → Prop} {R : VK} (h : HRep K G so H) (w : VOk K G so H x dx) (q : slR dx lo hi Q) (k : ∀ v H' G' dv, PostV K G so H v H' G' dv → Q dv → R v H') : rSlAll K x lo hi H R := by
  unfold slR at q
  split at q
  · obtain ⟨a, vs, rfl, g1, a1⟩ := VOk.tup h w
    refine .inl ⟨a, vs, rfl, g1, fun z => ?_, fun _ p n => k _ _ _ _ (.tuple h n (cut_all a1)) q⟩
    rw [a1.length] at z
    rw [cut_whole z] at q
    exact k _ H G _ (.dat h w) q
  · cases w
    exact .inr (.inl ⟨_, rfl, by rw [← szl_eq]; exact q.1, k _ H G _ (.dat h (.str _)) q.2⟩)
  · split at q
    · rename_i e
      obtain ⟨a, vs, rfl, g1, a1⟩ := VOk.list h w e
      exact .inr (.inr ⟨a, vs, rfl, SqL.of g1, fun p n => k _ _ _ _ (.list h n (cut_all a1)) q⟩)
    · exact q.elim
theorem de_sl (he : DE X W e te) (hl : DO' X W lo tl) (hh : DO' X W hi th) : DE X W (.Subscript e (.Slice lo hi none p2) pos) (dSl te tl th) := pe_imp (pe_slice sl_all he hl hh) fun σ H R ⟨G, so, sl, Q, E, rep, q, hq, hx⟩ => by
  refine ⟨G, so, sl, _, E, rep, q, fun x H1 G1 dx s1 p1 q1 => ?_, hx⟩
  refine ⟨G1, so, s1, _, E, p1.rep, q1, fun o1 H2 G2 s2 p2 q2 => ?_, hx.step p1.toPost⟩
  refine ⟨G2, so, s2, _, E, p2.rep, q2, fun o2 H3 G3 s3 p3 q3 => ?_, hx.step (p1.toPost.trans p2)⟩
  have p23 := p2.trans p3
  exact sem_sl p3.rep.h (p1.over p23) q3 fun v H' G' dv pv hz => hq v H' G' dv s3 ((p1.toPost.trans p23).thenV pv) hz
end

/-! ### sep.join(texts) -/
def strsD : List D → Option (List Str)
  | [] => some []
  | .str s :: r => (strsD r).map (s :: ·)
  | _ => none
theorem strs_ok {K : PySem.W.Frag} {G : Hp} : ∀ {vs : List V} {ds : List D} {ss : List Str}, DAll K G vs ds → strsD ds = some ss → vs = ss.map V.str
  | _, _, _, .nil, e => by cases e; rfl
  | _, _, _, .cons (d := .str b) h t, e => by
    unfold strsD at e
    rename_i ds0
    cases z : strsD ds0 with
    | none => rw [z] at e; cases e
    | some ys => rw [z] at e; cases e; cases h; rw [strs_ok t z]; rfl
  | _, _, _, .cons (d := .non) h t, e => by cases e
  | _, _, _, .cons (d := .int _) h t, e => by cases e
  | _, _, _, .cons (d := .bl _) h t, e => by cases e
  | _, _, _, .cons (d := .lst _) h t, e => by cases e
  | _, _, _, .cons (d := .tup _) h t, e => by cases e
  | _, _, _, .cons (d := .ins _ _) h t, e => by cases e
  | _, _, _, .cons (d := .raw _) h t, e => by cases e
def seqD : DV → Option (List D)
  | .d (.tup ds) => some ds
  | v => v.items
@[irreducible] def joinR : DV → DV → (DV → Prop) → Prop
  | .d (.str a), y, Q => match seqD y with
    | some ds => match strsD ds with
      | some ss => (ss.map (·.length)).sum + ss.length * a.length ≤ 16777216 ∧ Q (.d (.str (Txt.join a ss)))
      | none => False
    | none => False
  | _, _, _ => False
section
variable {X : Cx} {W : WX} {o e : Expr} {to te : TD} {apos pos : Pos}
theorem de_join (ho : DE X W o to) (he : DE X W e te) (hs : starEach [e] X.env = [(false, eval e X.env)] := by rfl) (hbase : attributeBase o "join" X.env (eval o X.env) = eval o X.env := by rfl) (hline : (apos.endLine == pos.line) = true := by rfl) :
    DE X W (.Call (.Attribute o "join" apos) [e] [] pos) (fun sl Q E => to sl (fun x s1 => (∃ a, x = .d (.str a)) ∧ te s1 (fun y s2 => joinR x y fun z => Q z s2) E) E) := pe_imp (pe_join ho he hs hbase hline) fun σ H R ⟨G, so, sl, Q, E, rep, q, hq, hx⟩ => by
  refine ⟨G, so, sl, _, E, rep, q, fun x H1 G1 dx s1 p1 ⟨⟨a, ea⟩, h1⟩ => ⟨?_, ?_⟩, hx⟩
  · have w := p1.val
    rw [ea] at w
    cases w; exact ⟨a, rfl⟩
  · refine ⟨G1, so, s1, _, E, p1.rep, h1, fun y H2 G2 dy s2 p2 h2 => ?_, hx.step p1.toPost⟩
    have w1 := p1.over p2.toPost
    have w2 := p2.val
    have fin := fun (z : Str) (qz : Q (.d (.str z)) s2) => hq _ H2 G2 _ s2 ((p1.toPost.trans p2.toPost).thenV (.dat p2.rep.h (.str z))) qz
    rw [ea] at w1 h2
    cases w1
    unfold joinR at h2
    change (match seqD dy with | some ds => (match strsD ds with | some ss => (ss.map (·.length)).sum + ss.length * a.length ≤ 16777216 ∧ Q (.d (.str (Txt.join a ss))) s2 | none => False) | none => False) at h2
    split at h2
    · rename_i ds ed
      split at h2
      · rename_i ss es
        unfold seqD at ed
        split at ed
        · cases ed
          obtain ⟨b, vs, rfl, g1, a1⟩ := VOk.tup p2.rep.h w2
          exact ⟨_, b, ss, rfl, rfl, .inr (by rw [← strs_ok a1 es]; exact g1), h2.1, fin _ h2.2⟩
        · obtain ⟨b, vs, rfl, g1, a1⟩ := VOk.list p2.rep.h w2 ed
          exact ⟨_, b, ss, rfl, rfl, .inl (by rw [← strs_ok a1 es]; exact SqL.of g1), h2.1, fin _ h2.2⟩
      · exact h2.elim
    · exact h2.elim
end

/-! ### repr of a plain tree -/
def rReprD (K : PySem.W.Frag) : List V → Hp → VK → Prop := fun xs H Q => ∃ (a : Addr) (d : PyData), xs = [.ref a] ∧ Dp K H (.ref a) d ∧ SeqAt.shaped d = true ∧ d.showable = true ∧ d.shown.length ≤ sizeLine ∧ Q (.str d.shown) H
theorem call_reprD {X : Cx} (hg : X.A.guards = some []) (hu : X.A.units + 65 < cLine) : CallR X (.builtin "repr") (rReprD X.K) := by
  intro pins s σ H xs us Q I r h
  obtain ⟨a, d, rfl, hd, hs, hw, hz, q⟩ := h
  obtain ⟨u, rfl, ru⟩ := vals1 r
  cases ru
  obtain ⟨as, rd⟩ := Dp.reads I d _ _ hd (show RelV (.ref a) (.ref a) from rfl)
  have dd := SeqAt.depth_of_shaped hs
  exact repr_of_reads' rd hw (PyData.noDict_hsm (PyData.hasDict_of_canLay _ (SeqAt.canLay_of_shaped hs))) hg (by omega) (fun _ _ e => e) (fun h' u tk hk => ⟨.str d.shown, H, I.kept hk, ⟨_, rfl⟩, q⟩) hz
@[irreducible] def reprR : List DV → (DV → Prop) → Prop
  | [v], Q => match v.dat with
    | some (.lst ds) => match (D.lst ds).py with
      | some p => SeqAt.shaped p = true ∧ p.showable = true ∧ p.shown.length ≤ szl ∧ Q (.d (.str p.shown))
      | none => False
    | some (.tup ds) => match (D.tup ds).py with
      | some p => SeqAt.shaped p = true ∧ p.showable = true ∧ p.shown.length ≤ szl ∧ Q (.d (.str p.shown))
      | none => False
    | _ => False
  | _, _ => False
theorem dp_ref {K : PySem.W.Frag} {G H : Hp} {so : Option Addr} {v : V} {dv : DV} {d : D} (w : VOk K G so H v dv) (e : dv.dat = some d) (h : (∃ ds, d = .lst ds) ∨ ∃ ds, d = .tup ds) : ∃ a, v = .ref a := by
  cases dv with
  | src => cases e
  | own o => obtain ⟨a, q, _⟩ := w; exact ⟨a, q⟩
  | bor o => obtain ⟨a, q, _⟩ := w; exact ⟨a, q⟩
  | see o => obtain ⟨a, q, _⟩ := w; exact ⟨a, q⟩
  | d x =>
    cases e
    rcases h with ⟨ds, rfl⟩ | ⟨ds, rfl⟩
    · cases w; exact ⟨_, rfl⟩
    · cases w; exact ⟨_, rfl⟩
theorem sem_repr {K : PySem.W.Frag} : CallSem K (rReprD K) reprR := by
  intro G so H xs dxs Q R h w q k
  unfold reprR at q
  split at q
  · obtain ⟨v, rfl, w1, _⟩ := w.v1
    split at q
    · rename_i ds e
      split at q
      · rename_i p ep
        obtain ⟨a, rfl⟩ := dp_ref w1 e (.inl ⟨ds, rfl⟩)
        exact ⟨a, p, rfl, w1.dp h e ep, q.1, q.2.1, by rw [← szl_eq]; exact q.2.2.1, k _ H G _ (.dat h (.str _)) q.2.2.2⟩
      · exact q.elim
    · rename_i ds e
      split at q
      · rename_i p ep
        obtain ⟨a, rfl⟩ := dp_ref w1 e (.inr ⟨ds, rfl⟩)
        exact ⟨a, p, rfl, w1.dp h e ep, q.1, q.2.1, by rw [← szl_eq]; exact q.2.2.1, k _ H G _ (.dat h (.str _)) q.2.2.2⟩
      · exact q.elim
    · exact q.elim
  · exact q.elim
end DL

set_option Elab.async false
set_option linter.all false
set_option maxRecDepth 100000
set_option autoImplicit false
set_option maxHeartbeats 2000000
namespace DL
open PySem PySem.Spec PyProof.Rows L2

/-! ### defs by readings of the layer below -/
structure FnR (P : Program) (w : World) (K : PySem.W.Frag) (mg : Str → Option Value) (base : Heap) (k : Nat) (f : Addr) (fd : FuncData) (ps : List Str) (sp : Sp) : Prop where
  len : ∀ vs H Q E, sp vs H Q E → vs.length = ps.length
  run : ∀ (A : Around) (outer : List Env) (s : Shared) (H : Hp) (args : Args) (us : List Value) (vs : List V) (Q : VK) (E : XK), Room k A → A.guards = some [] → Env0 P w K mg base A outer s H → BindsTo s fd args (ps.zip us) → Vals vs us → sp vs H Q E →
    codeAny (model P w) A (.call (.ref f) args) (CR (L2.CX P w) outer P w H s Q E) s
theorem fnR_of {P : Program} {w : World} {K : PySem.W.Frag} {mg : Str → Option Value} {base : Heap} {x qual : Str} {params : Arguments} {body : List Stmt} {scope : Scope} {dvs : List V} {kws : List (Str × V)} {f : Addr} {fd : FuncData} {N ps : List Str} {k : Nat} {sp : Sp}
    (F : FunD K x qual params body scope dvs kws f fd) (S : FnScope N ps scope) (len : ∀ vs H Q E, sp vs H Q E → vs.length = ps.length)
    (hd : ∀ (cdv : Value) (A : Around) (outer : List Env) (s : Shared) (H : Hp) (vs : List V) (Q : VK) (E : XK), Room k (A.deeper (envOfC qual scope s.heap.objs.size f cdv)) → (cxOf (L2.CX P w) P w K mg base N qual scope f cdv A outer s H E).A.guards = some [] → sp vs H Q E →
      ∃ t, PSs (cxOf (L2.CX P w) P w K mg base N qual scope f cdv A outer s H E) body t ∧ t { nx := fun _ H' => Q .non H', rt := Q } (L2.start N vs) H) : FnR P w K mg base (k + 1) f fd ps sp := by
  obtain ⟨oc, od, dV, kV, doc, pm, an, cdv, ct, osl, rfl, lk, hcd, _, _⟩ := F.ex
  refine ⟨len, fun A outer s H args us vs Q E hroom hg e0 hb r hsp => ?_⟩
  have KX : K.In s.heap := e0.mod.kin.keeps fun b o e => (e0.bs b o e).1
  have lim : s.heap.NoLimit := e0.mod.nolimit.keeps fun b o e => (e0.bs b o e).1
  have hkind : ((ps.zip us).all fun y => scope.names.lookup y.1 == some .local || scope.names.lookup y.1 == some .cell) = true := by
    rw [List.all_eq_true]
    rintro ⟨n, u⟩ hy
    rcases S.par n (List.of_mem_zip hy).1 with z | z
    · show (scope.names.lookup n == some .local || _) = true
      rw [z]; rfl
    · show (scope.names.lookup n == some .local || scope.names.lookup n == some .cell) = true
      rw [z]; rfl
  refine Att.call_fn KX lim lk hcd hroom.depth hb hkind (fun s1 x => ?_) S.co S.gen S.kind
  have I := inv_start (CX := L2.CX P w) (E := E) S hroom.hd e0 (len _ _ _ _ hsp) r x
  obtain ⟨t, pt, qt⟩ := hd cdv A outer s H vs Q E (hroom.deeper _) hg hsp
  refine wpAny_mono (pt.run [] s1 (L2.start N vs) H _ I qt) (fun fl s' hs => ?_) fun e s' hs => hs
  cases fl with
  | ret u =>
    obtain ⟨v, σ', H', J, rv, z⟩ := hs
    exact ⟨v, H', J.os, J.bare, J.base, J.hok, rv, z⟩
  | next =>
    obtain ⟨σ', H', J, z⟩ := hs
    exact ⟨.non, H', J.os, J.bare, J.base, J.hok, rfl, z⟩
  | brk => obtain ⟨_, _, _, z⟩ := hs; exact False.elim z
  | cont => obtain ⟨_, _, _, z⟩ := hs; exact False.elim z
theorem FnR.g {P : Program} {w : World} {K : PySem.W.Frag} {mg : Str → Option Value} {base : Heap} {k : Nat} {f : Addr} {fd : FuncData} {ps : List Str} {sp : SpD} (F : FnR P w K mg base k f fd ps (upSp K sp)) (len : ∀ args Q E, sp args Q E → args.length = ps.length) : FnG P w K mg base k f fd ps sp := ⟨len, F.run⟩
theorem FnG.r {P : Program} {w : World} {K : PySem.W.Frag} {mg : Str → Option Value} {base : Heap} {k : Nat} {f : Addr} {fd : FuncData} {ps : List Str} {sp : SpD} (F : FnG P w K mg base k f fd ps sp) : FnR P w K mg base k f fd ps (upSp K sp) :=
  ⟨fun vs H Q E ⟨G, so, as, QD, ED, _, w, q, _⟩ => w.length.trans (F.len _ _ _ q), F.run⟩
/-- f(e, ..) by such a promise, nothing raised -/
theorem pe_callR {X : Cx} {k : Nat} {f : Addr} {fd : FuncData} {ps : List Str} {sp : Sp} {x : Str} {p pos : Pos} {e : Expr} {es : List Expr} {t : TA} (F : FnR X.prog X.w X.K X.mg X.base k f fd ps sp) (hr : Room k X.A) (hgd : X.A.guards = some []) (hg : Gl X x) (hm : X.mg x = some (.ref f)) (hk : PySem.W.keepIn X.K (.ref f) = true) (hb : Binds X.K fd ps [])
    (ha : PA X (e :: es) t) (hdb : (x == ("__debug__" : Str)) = false := by decide) (he : starEach (e :: es) X.env = (false, eval e X.env) :: starEach es X.env := by rfl) (hpl : (backTo pos (starEach es X.env)).any (·.1) = false := by rfl) :
    PE X (.Call (.Name x p) (e :: es) [] pos) (fun σ H Q => t σ H fun vs H1 => sp vs H1 Q E0) := by
  refine ⟨fun pins s σ H Q I h => wpAny_Call_Name_kw (ld_glob I hg hm ?_ hdb)⟩
  refine PySem.W.callWith_K (h₀ := X.base) I.ok.mod.kin hk (thn (ha.run pos pins s σ H _ I h) fun us s1 ⟨vs, H1, I1, r, q⟩ => ⟨I1.kIn, ?_⟩) he hpl
  have hl : (us ++ []).length = ps.length := by rw [List.append_nil, ← r.length]; exact F.len _ _ _ _ q
  have hb2 := hb s1 us I1.kIn hl
  rw [List.append_nil] at hb2
  refine wpAny_call (codeAny_mono (F.run X.A X.stack s1 H1 ⟨us, []⟩ us vs Q E0 hr hgd I1.env0 hb2 r q) fun r s' hq => ?_)
  cases r with
  | error e => exact passL pins σ H1 s1 e s' I1 hq
  | ok fl =>
    cases fl with
    | ret u => exact I1.after hq
    | next => exact False.elim hq
    | brk => exact False.elim hq
    | cont => exact False.elim hq

/-! ### the law's own end -/
/-- the law's promise, from the heap behind the top: it hands back True -/
theorem law_callG {P : Program} {w : World} {K : PySem.W.Frag} {mg mb : Str → Option Value} {k : Nat} {fa a : Addr} {fd : FuncData} {x : Str} {sp : Sp} {s1 : Shared} {vs : List Value} {ns : List Int}
    (KX : K.In s1.heap) (hns : s1.heap.Ns mainGlobals mg) (hb : s1.heap.Ns builtinsNs mb) (hbb : ∀ x : Str, x ≠ "__name__" → mb x = bootBuiltins x) (hlim : s1.heap.NoLimit) (hg : s1.gens = #[])
    (ha : s1.heap.get? a = some { cls := .type "list", data := .seq vs.toArray }) (hi : IntsAre vs ns) (hl : ns.length ≤ sizeLine) (hr : Room k callerA)
    (F : ∀ base : Heap, K.In base → base.Ns mainGlobals mg → FnR P w K mg base k fa fd [x] sp) (hbind : ∀ (s : Shared) (u : Value), BindsTo s fd ⟨[u], []⟩ [(x, u)])
    (hsp : ∀ H : Hp, SqL K H a (ns.map V.int) → sp [.ref a] H (fun v _ => v = .bl true) fun _ _ _ => False) :
    codeAny (model P w) callerA (.call (.ref fa) ⟨[.ref a], []⟩) (fun r s' => r = .ok (.ret (.bool true)) ∧ OldK s1.heap s'.heap ∧ s'.os = s1.os ∧ AllBare s'.gens) s1 := by
  have rv := vals_ints hi
  have core : ∀ H : Hp, Only H → SqL K H a (ns.map V.int) → HOk P w H s1.heap → (∀ b, H b ≠ none → b = a ∧ K.lookup a = none) →
      codeAny (model P w) callerA (.call (.ref fa) ⟨[.ref a], []⟩) (fun r s' => r = .ok (.ret (.bool true)) ∧ OldK s1.heap s'.heap ∧ s'.os = s1.os ∧ AllBare s'.gens) s1 := by
    intro H hO hS hok hA
    have lay : ∀ {b : Addr} {o : Obj}, s1.heap.get? b = some o → H b = none → (hidT s1.heap H).get? b = some o := fun e n => hidT_get e n
    have plain : ∀ {b : Addr} {m : Str → Option Value}, s1.heap.Ns b m → (hidT s1.heap H).Ns b m := fun {b m} ⟨o, es, ep, e, d, r⟩ => by
      refine ⟨o, es, ep, lay e ?_, d, r⟩
      cases q : H b with
      | none => rfl
      | some u =>
        obtain ⟨rfl, _⟩ := hA b (by rw [q]; simp)
        rw [ha] at e; cases e
        cases (show Data.seq vs.toArray _ = Data.dict es ep from d)
    have hKb : K.In (hidT s1.heap H) := fun b o e => lay (KX b o e) (by
      cases q : H b with
      | none => rfl
      | some u =>
        obtain ⟨rfl, z⟩ := hA b (by rw [q]; simp)
        rw [z] at e; cases e)
    have e0 : Env0 P w K mg (hidT s1.heap H) callerA [] s1 H := by
      refine ⟨rfl, ⟨hKb, plain hns, ⟨mb, plain hb, hbb⟩, ?_⟩, fun b o e => of_hidT e, Nat.le_of_eq (hidT_size _ _), trivial, fun b z => absurd (show b ∈ ([] : List Addr) from z) (by simp), hok, .of_eq hg⟩
      obtain ⟨mc, h1, h2⟩ := hlim
      exact ⟨mc, plain h1, h2⟩
    refine codeAny_mono ((F _ hKb (plain hns)).run callerA [] s1 H ⟨[.ref a], []⟩ [.ref a] [.ref a] _ _ hr rfl e0 (hbind s1 (.ref a)) (.cons rfl .nil) (hsp H hS)) fun r s' h => ?_
    cases r with
    | error e =>
      obtain ⟨_, _, _, _, _, _, _, _, _, _, _, _, z⟩ := h
      exact z.elim
    | ok fl =>
      cases fl with
      | next => exact False.elim h
      | brk => exact False.elim h
      | cont => exact False.elim h
      | ret u =>
        obtain ⟨v, H', os, bare, un, hok', r', q⟩ := h
        obtain rfl : v = .bl true := q
        obtain rfl : u = Value.bool true := r'
        refine ⟨rfl, OldK.of_keep fun b o e => ?_, os, bare⟩
        rcases hO b with z | ⟨ob, xs, z⟩
        · exact un.keep b o e z (fun y => absurd (show b ∈ ([] : List Addr) from y) (by simp)) (by simp)
        · obtain ⟨e1, _⟩ := hok b _ z
          obtain ⟨e2, _⟩ := hok' b _ (un.frzs b ob _ z)
          rw [e] at e1; cases e1
          exact e2
  cases hk : K.lookup a with
  | some o =>
    have e := KX a o hk
    rw [ha] at e; cases e
    refine core (fun _ => none) (fun _ => .inl rfl) (.inr ⟨_, vs.toArray, _, hk, rfl, rfl, rfl, ?_, by simpa using rv⟩) (fun b u z => (nomatch z)) fun b z => absurd rfl z
    rw [List.size_toArray, hi.length]; exact hl
  | none =>
    have at_a : ∀ b, (if b = a then some (HO.frz { cls := .type "list", data := .seq vs.toArray } (.lst (ns.map V.int))) else none) ≠ none → b = a := fun b z => by
      by_cases q : b = a
      · exact q
      · exact absurd (if_neg q) z
    refine core (fun b => if b = a then some (.frz { cls := .type "list", data := .seq vs.toArray } (.lst (ns.map V.int))) else none) (fun b => ?_) (.inl (.inr ⟨_, if_pos rfl⟩)) (fun b u z => ?_) fun b z => ⟨at_a b z, hk⟩
    · by_cases q : b = a
      · exact .inr ⟨_, _, if_pos q⟩
      · exact .inl (if_neg q)
    · obtain rfl := at_a b (fun y => by
        have y2 := y.symm.trans z
        cases y2)
      have z' := (if_pos rfl).symm.trans z
      cases z'
      exact ⟨ha, by rw [List.length_map]; exact hl, vs, _, rv, ha⟩
/-- the goal behind the head's word, from the law's promise -/
theorem walk_ofG {l : PySem.W.OpenLaw} {n k : Nat} {q : Program} {loose : List Str} {XP : (Str → Option Value) → Heap → Prop} {YP : World → Heap → Prop} {d : DefRec} {K : Params → PySem.W.Frag} {sp : World → Sp} {x : Str}
    (hn : l.most = some n) (hn2 : n ≤ sizeLine) (hdf : d.params.defaults = []) (hr : Room k callerA) (hY : ∀ (w : World) (h : Heap), YP w h → (K w.params).In h)
    (F : ∀ (w : World) (mg : Str → Option Value) (fa : Addr) (h : Heap), (K w.params).In h → h.Ns mainGlobals mg → mg d.name = some (.ref fa) →
      ∃ fd : FuncData, (∀ (s : Shared) (u : Value), BindsTo s fd ⟨[u], []⟩ [(x, u)]) ∧ ∀ base : Heap, (K w.params).In base → base.Ns mainGlobals mg → FnR l.prog w (K w.params) mg base k fa fd [x] (sp w))
    (hsp : ∀ (w : World) (H : Hp) (a : Addr) (ns : List Int), ns.length ≤ n → SqL (K w.params) H a (ns.map V.int) → sp w [.ref a] H (fun v _ => v = .bl true) fun _ _ _ => False) :
    PySem.W.WalkO q loose XP YP l.row.toRowW d [] (fun f vs => PySem.call f vs) := by
  refine Att.attach_call hn hdf fun w s0 s1 mg mb fa o pm cd doc a vs ns G Y ho hd hcd hmg hobj hints hlen hg => ?_
  have KX := hY w _ Y
  obtain ⟨fd, hb, hF⟩ := F w mg fa _ KX G.T.g hmg
  exact law_callG KX G.T.g G.T.b G.T.builtins G.T.nolimit hg hobj hints (Nat.le_trans hlen hn2) hr hF hb fun H hS => hsp w H a ns hlen hS
end DL

set_option Elab.async false
set_option linter.all false
set_option maxRecDepth 100000
set_option autoImplicit false
set_option maxHeartbeats 2000000
namespace DL
open PySem PySem.Spec PyProof.Rows L2

/-! ### the source of draws -/
def spSource (K : PySem.W.Frag) : Sp := fun vs H Q _ => ∃ (a : Addr) (ns : List Int), vs = [.ref a] ∧ SqL K H a (ns.map V.int) ∧ ns.length ≤ 63 ∧
  ∀ (H' : Hp) (p c : Addr) (ms : List Int) (sd : Int), Ex H H' → c ≠ p → H' p = some (.lst [.ref c, .int 0, .int 0, .int sd, .int 0]) → H' c = some (.lst (ms.map V.int)) → ms.length ≤ 63 → 0 ≤ sd → sd < 4294967296 → Q (.ref p) H'
def spDraw : SpD := fun args Q _ => ∃ m : Int, args = [.src, .d (.int m)] ∧ 0 < m ∧ m < 2 ^ 64 ∧ ∀ n : Int, 0 ≤ n → n < m → Q (.d (.int n))
/-- seq[a draw below its length] -/
def spOf : SpD := fun args Q _ => ∃ x : DV, args = [.src, x] ∧ (∀ o, x ≠ .see o) ∧ match x with
  | .d (.str z) => 0 < z.length ∧ z.length ≤ szl ∧ ∀ c ∈ z.cps.toList, Q (.d (.str ⟨#[c]⟩))
  | .d (.tup ds) => 0 < ds.length ∧ ds.length ≤ szl ∧ ∀ d ∈ ds, Q (.d d)
  | x => match x.items with
    | some ds => 0 < ds.length ∧ ds.length ≤ szl ∧ ∀ d ∈ ds, Q (.d d)
    | none => False
/-- a tree that repr shows -/
structure Shows (d : D) (p : PyData) : Prop where
  py : d.py = some p
  seq : (∃ ds, d = .lst ds) ∨ ∃ ds, d = .tup ds
  sh : SeqAt.shaped p = true
  sw : p.showable = true
  ln : p.shown.length ≤ szl
/-- two trees that are shown alike -/
def spSame : SpD := fun args Q _ => ∃ (d e : D) (p q : PyData), args = [.d d, .d e] ∧ Shows d p ∧ Shows e q ∧ Q (.d (.bl (decide (p.shown = q.shown))))
theorem same_true {Q : DV → Prop} {E : XE'} {d : D} {p : PyData} (h : Shows d p) (q : Q (.d (.bl true))) : spSame [.d d, .d d] Q E := ⟨d, d, p, p, rfl, h, h, by rw [decide_eq_true rfl]; exact q⟩
theorem same_eq {Q : DV → Prop} {E : XE'} {d e : D} {p : PyData} (h : Shows d p) (he : d = e) (q : Q (.d (.bl true))) : spSame [.d d, .d e] Q E := by subst he; exact same_true h q
theorem room65 {k : Nat} {A : Around} (hr : Room k A) : A.units + 65 < cLine := by have := hr.un; omega
theorem repr_ok {d : D} {p : PyData} {Q : DV → Prop} (s : Shows d p) (q : Q (.d (.str p.shown))) : reprR [.d d] Q := by
  unfold reprR
  rcases s.seq with ⟨ds, rfl⟩ | ⟨ds, rfl⟩
  · show (match (D.lst ds).py with | some p => SeqAt.shaped p = true ∧ p.showable = true ∧ p.shown.length ≤ szl ∧ Q (.d (.str p.shown)) | none => False)
    rw [s.py]
    exact ⟨s.sh, s.sw, s.ln, q⟩
  · show (match (D.tup ds).py with | some p => SeqAt.shaped p = true ∧ p.showable = true ∧ p.shown.length ≤ szl ∧ Q (.d (.str p.shown)) | none => False)
    rw [s.py]
    exact ⟨s.sh, s.sw, s.ln, q⟩

def spLaw (K : PySem.W.Frag) : Sp := fun vs H Q _ => ∃ (a : Addr) (ns : List Int), vs = [.ref a] ∧ SqL K H a (ns.map V.int) ∧ ns.length ≤ 63 ∧ ∀ H', Q (.bl true) H'
abbrev lawEnds : EndsD := { nx := fun _ => False, rt := fun v => v = .d (.bl true), bk := fun _ => False, ct := fun _ => False, xc := fun _ _ _ => False }
/-- the law behind its first statement -/
theorem law_up {K : PySem.W.Frag} {W : WX} {t : TDS} {D : Ends} {σ : L2.St} {H : Hp} {p c : Addr} {ms : List Int} {sd : Int} (n i : Nat) (hl : σ.length = n) (hi : σ[i]? = some (some (.ref p))) (hD : ∀ H', D.rt (.bl true) H')
    (cp : c ≠ p) (hp : H p = some (.lst [.ref c, .int 0, .int 0, .int sd, .int 0])) (hc : H c = some (.lst (ms.map V.int))) (hm : ms.length ≤ 63) (h0 : 0 ≤ sd) (h1 : sd < 4294967296)
    (h : t lawEnds ((List.replicate n none).set i (some .src))) : upS K W t D σ H := by
  refine ⟨fun b => if b = c then H c else none, some p, _, lawEnds, ?_, h, ⟨fun _ _ _ _ _ z => z.elim, fun _ _ _ _ _ z => z.elim, fun _ _ _ _ _ z => z.elim, fun v H' G' dv pr z => ?_, fun _ _ _ _ _ _ _ _ _ z => z.elim⟩⟩
  · have sl : ∀ (j : Nat) (dv : DV), ((List.replicate n none).set i (some DV.src))[j]? = some (some dv) → j = i ∧ dv = .src := fun j dv e => by
      rcases get_set e with ⟨z, e2⟩ | ⟨ne, e2⟩
      · exact ⟨z, Option.some.inj e2⟩
      · rw [List.getElem?_replicate] at e2
        split at e2 <;> cases e2
    refine ⟨⟨fun b o e => ?_, fun b e => ?_⟩, by simp [hl], fun j dv e => ?_, fun j k o o' b e1 _ _ _ => ?_, fun j o b e1 _ _ => ?_, fun j o e => ?_⟩
    · by_cases q : b = c
      · subst q; rw [if_pos rfl] at e; exact e
      · rw [if_neg q] at e; cases e
    · cases e
      exact ⟨if_neg (Ne.symm cp), c, ms, 0, 0, sd, 0, hp, SqL.of (by rw [if_pos rfl]; exact hc), hm, by omega, by omega, h0, h1⟩
    · obtain ⟨rfl, rfl⟩ := sl j dv e
      exact ⟨_, hi, p, rfl, rfl⟩
    · exact (nomatch (sl j _ e1).2)
    · exact (nomatch (sl j _ e1).2)
    · exact (nomatch (sl j _ e).2)
  · have w := pr.val
    rw [z] at w
    cases w
    exact hD H'

/-! ### loops by what holds between two turns -/
theorem forL_inv {g : TDG} {tb : TDS} {E : EndsD} (I : DSt → Prop) : ∀ (ds : List D) (sl : DSt), I sl → (∀ (N : DSt → Prop) (d : D) (s : DSt), (∀ s', I s' → N s') → d ∈ ds → I s → g d s fun s1 => tb { nx := N, ct := N, bk := E.nx, rt := E.rt, xc := E.xc } s1) → (∀ s, I s → E.nx s) → dForL g tb E ds sl
  | [], sl, h, _, fin => by rw [forL_nil]; exact fin sl h
  | d :: r, sl, h, step, fin => by
    rw [forL_cons]
    exact step _ d sl (fun s' i => forL_inv I r s' i (fun N e s k m => step N e s k (List.mem_cons_of_mem _ m)) fin) (List.mem_cons_self ..) h
/-- .. by the part that is left -/
theorem forL_ind {g : TDG} {tb : TDS} {E : EndsD} (I : List D → DSt → Prop) (step : ∀ (N : DSt → Prop) (d : D) (r : List D) (s : DSt), (∀ s', I r s' → N s') → I (d :: r) s → g d s fun s1 => tb { nx := N, ct := N, bk := E.nx, rt := E.rt, xc := E.xc } s1) (fin : ∀ s, I [] s → E.nx s) : ∀ (ds : List D) (sl : DSt), I ds sl → dForL g tb E ds sl
  | [], sl, h => by rw [forL_nil]; exact fin sl h
  | d :: r, sl, h => by
    rw [forL_cons]
    exact step _ d r sl (fun s' i => forL_ind I step fin r s' i) h
/-- a comprehension by what holds of its list -/
theorem lcL_ind {g : TDG} {tt : TDT} {te : TD} {vs : List Nat} {Q : DV → DSt → Prop} (I : List D → List D → DSt → Prop)
    (step : ∀ (N : List D → DSt → Prop) (d : D) (r acc : List D) (s : DSt), (∀ acc' s', I r acc' s' → N acc' s') → I (d :: r) acc s → g d s fun s1 => tt s1 (fun b s2 => Br b (te s2 (fun x s3 => match pubV x with
      | .d y => acc.length < szl ∧ N (acc ++ [y]) (wipeD s3 vs)
      | _ => False) fun _ _ _ => False) (N acc (wipeD s2 vs))) fun _ _ _ => False)
    (fin : ∀ acc s, I [] acc s → Q (.own (.lst acc)) s) : ∀ (ds acc : List D) (sl : DSt), I ds acc sl → dLcL g tt te vs Q ds acc sl
  | [], acc, sl, h => by rw [lcL_nil]; exact fin acc sl h
  | d :: r, acc, sl, h => by
    rw [lcL_cons]
    exact step _ d r acc sl (fun acc' s' i => lcL_ind I step fin r acc' s' i) h
end DL
namespace DL
open PySem PySem.Spec PyProof.Rows L2
/-- a constant of the module -/
def GlobD (K : PySem.W.Frag) (mg : Str → Option Value) (x : Str) (d : D) : Prop := ∃ v u, mg x = some u ∧ RelV v u ∧ ∀ G, DOk K G v d
theorem de_globD {X : Cx} {W : WX} {x : Str} {d : D} {pos : Pos} (hg : Gl X x) (h : GlobD X.K X.mg x d) (hdb : (x == ("__debug__" : Str)) = false := by decide) : DE X W (.Name x pos) (dC d) := by
  obtain ⟨v, u, h1, h2, h3⟩ := h
  exact de_c (pe_glob hg h1 h2 hdb) h3
/-- bindings -/
theorem vals_1 {v : V} {us : List Value} (r : Vals [v] us) : ∃ u, us = [u] ∧ RelV v u := vals1 r
theorem bd_of {K : PySem.W.Frag} {x qual : Str} {params : Arguments} {body : List Stmt} {scope : Scope} {kws : List (Str × V)} {f : Addr} {fd : FuncData} {ps ks : List Str} {n : Nat} {sel : List Sel} (F : FunD K x qual params body scope [] kws f fd) (g : List Value → List Value → List Value)
    (h : ∀ (kV doc pm : Value) (an : Option Addr) (cdv ct : Value) (us ws : List Value), us.length = n → ws.length = ks.length → bindArgs (PySem.W.fnOf x qual params body scope .none kV doc pm an cdv ct) ⟨us, ks.zip ws⟩ = pure (ps.zip (g us ws)))
    (hv : ∀ (vs qs : List V) (us ws : List Value), us.length = n → ws.length = ks.length → Vals vs us → Vals qs ws → Vals (sel.map (pickV vs qs)) (g us ws)) (hs : ∀ s ∈ sel, ∀ (v : V) (d : D), s = .dfl v d → ∀ G, DOk K G v d) : Bd K fd ps n ks sel := by
  obtain ⟨oc, od, dV, kV, doc, pm, an, cdv, ct, osl, rfl, lk, hcd, hD, hK⟩ := F.ex
  rcases hD with ⟨_, rfl⟩ | ⟨e, _⟩
  · exact ⟨fun s us ws vs qs _ l1 l2 r1 r2 => ⟨g us ws, .of_eq (h kV doc pm an cdv ct us ws l1 l2), hv vs qs us ws l1 l2 r1 r2⟩, hs⟩
  · exact absurd rfl e
/-- .. with positional defaults -/
theorem bd_dfl {K : PySem.W.Frag} {x qual : Str} {params : Arguments} {body : List Stmt} {scope : Scope} {dvs : List V} {kws : List (Str × V)} {f : Addr} {fd : FuncData} {ps ks : List Str} {n : Nat} {sel : List Sel} (F : FunD K x qual params body scope dvs kws f fd) (hd : dvs ≠ []) (g : List Value → List Value → List Value → List Value)
    (h : ∀ (T : Addr) (kV doc pm : Value) (an : Option Addr) (cdv ct : Value) (us ws its : List Value), us.length = n → ws.length = ks.length → its.length = dvs.length → ∃ k, bindArgs (PySem.W.fnOf x qual params body scope (.ref T) kV doc pm an cdv ct) ⟨us, ks.zip ws⟩ = seqItems? (.ref T) >>= k ∧ k (some its.toArray) = pure (ps.zip (g us ws its)))
    (hv : ∀ (vs qs : List V) (us ws its : List Value), us.length = n → ws.length = ks.length → Vals vs us → Vals qs ws → Vals dvs its → Vals (sel.map (pickV vs qs)) (g us ws its)) (hs : ∀ s ∈ sel, ∀ (v : V) (d : D), s = .dfl v d → ∀ G, DOk K G v d) : Bd K fd ps n ks sel := by
  obtain ⟨oc, od, dV, kV, doc, pm, an, cdv, ct, osl, rfl, lk, hcd, hD, hK⟩ := F.ex
  rcases hD with ⟨e, _⟩ | ⟨_, T, o, its, m, rfl, lT, oT, rT⟩
  · exact absurd e hd
  · refine ⟨fun s us ws vs qs X l1 l2 r1 r2 => ⟨g us ws its, BindsTo.of_looks fun M => ?_, hv vs qs us ws its l1 l2 r1 r2 rT⟩, hs⟩
    obtain ⟨k, e1, e2⟩ := h T kV doc pm an cdv ct us ws its l1 l2 rT.length.symm
    rw [e1]
    exact looks_items X lT oT (.of_pure e2)
end DL
namespace DL
open PySem PySem.Spec PyProof.Rows L2
theorem sh_str (s : Str) (h : PyData.strOk s = true) : SeqAt.shaped (.str s) = true := by simp [SeqAt.shaped, PyData.canLay0, PyData.depth, h]
theorem sh_int (s : Int) : SeqAt.shaped (.int s) = true := by simp [SeqAt.shaped, PyData.canLay0, PyData.depth]
theorem sh_bool (s : Bool) : SeqAt.shaped (.bool s) = true := by simp [SeqAt.shaped, PyData.canLay0, PyData.depth]
theorem sh_none : SeqAt.shaped .none = true := by simp [SeqAt.shaped, PyData.canLay0, PyData.depth]
theorem isi_ok {x : DV} {d : D} {t T : String} {b : Bool} {Q : DV → Prop} (hx : x.dat = some d) (ht : tyD d = some t) (hk : kitB t T = some b) (q : Q (.d (.bl b))) : isiR [x, .d (.raw (.ty T))] Q := by
  unfold isiR
  show (match x.dat with | some d => (match tyD d with | some t => (match kitB t T with | some b => Q (.d (.bl b)) | none => False) | none => False) | none => False)
  rw [hx]
  show (match tyD d with | some t => (match kitB t T with | some b => Q (.d (.bl b)) | none => False) | none => False)
  rw [ht]
  show (match kitB t T with | some b => Q (.d (.bl b)) | none => False)
  rw [hk]
  exact q
theorem kit_str_str : kitB "str" "str" = some true := by decide +kernel
theorem kit_non_str : kitB "NoneType" "str" = some false := by decide +kernel
theorem kit_bool_str : kitB "bool" "str" = some false := by decide +kernel
theorem kit_int_str : kitB "int" "str" = some false := by decide +kernel
theorem kit_list_str : kitB "list" "str" = some false := by decide +kernel
theorem kit_tuple_str : kitB "tuple" "str" = some false := by decide +kernel
end DL

set_option Elab.async false
set_option linter.all false
set_option maxRecDepth 100000
set_option autoImplicit false
set_option maxHeartbeats 2000000
/-! the leaves of readings, one step each -/
namespace DL
open PySem PySem.Spec PyProof.Rows L2
section
variable {Q : DV → Prop} {i j : Int} {a b z : Str} {ds es : List D} {d e : D} {v w : DV}
theorem l_addI (q : Q (.d (.int (i + j)))) : addR (.d (.int i)) (.d (.int j)) Q := by unfold addR; exact q
theorem l_addS (h : a.length + b.length ≤ szl) (q : Q (.d (.str (a ++ b)))) : addR (.d (.str a)) (.d (.str b)) Q := by unfold addR; exact ⟨h, q⟩
theorem l_addT (h : ds.length + es.length ≤ szl) (q : Q (.d (.tup (ds ++ es)))) : addR (.d (.tup ds)) (.d (.tup es)) Q := by unfold addR; exact ⟨h, q⟩
theorem l_addL (hv : v.items = some ds) (hw : w.items = some es) (h : ds.length + es.length ≤ szl) (q : Q (.own (.lst (ds ++ es)))) : addR v w Q := by
  unfold addR
  split
  · cases hv
  · cases hv
  · cases hv
  · rw [hv, hw]; exact ⟨h, q⟩
theorem l_int0 {f : Int → Int → D} (q : Q (.d (f i j))) : intR0 f (.d (.int i)) (.d (.int j)) Q := by unfold intR0; exact q
theorem l_int1 {C : Int → Int → Prop} {f : Int → Int → D} (h : C i j) (q : Q (.d (f i j))) : intR C f (.d (.int i)) (.d (.int j)) Q := by unfold intR; exact ⟨h, q⟩
theorem l_neg (q : Q (.d (.int (-i)))) : negR (.d (.int i)) Q := by unfold negR; exact q
theorem l_eqI {n : Bool} (q : Q (.d (.bl (if n then !decide (i = j) else decide (i = j))))) : eqR n (.d (.int i)) (.d (.int j)) Q := by unfold eqR; exact q
theorem l_eqS {n : Bool} (q : Q (.d (.bl (if n then !decide (a = b) else decide (a = b))))) : eqR n (.d (.str a)) (.d (.str b)) Q := by unfold eqR; exact q
theorem l_eqB {n x y : Bool} (q : Q (.d (.bl (if n then !decide (x = y) else decide (x = y))))) : eqR n (.d (.bl x)) (.d (.bl y)) Q := by unfold eqR; exact q
theorem l_eqD {n : Bool} {p p' : PyData} (hv : v.dat = some d) (hw : w.dat = some e) (h1 : d.py = some p) (h2 : e.py = some p') (s1 : SeqAt.shaped p = true) (s2 : SeqAt.shaped p' = true) (hn : (∃ x, p = .list x) ∨ (∃ x, p = .tuple x) ∨ p = .none) (q : Q (.d (.bl (if n then !PyData.eqv p p' else PyData.eqv p p')))) : eqR n v w Q := by
  unfold eqR
  split
  · cases hv; cases h1; rcases hn with ⟨x, z⟩ | ⟨x, z⟩ | z <;> cases z
  · cases hv; cases h1; rcases hn with ⟨x, z⟩ | ⟨x, z⟩ | z <;> cases z
  · cases hv; cases h1; rcases hn with ⟨x, z⟩ | ⟨x, z⟩ | z <;> cases z
  · unfold eqDeep
    rw [hv, hw]
    dsimp only
    rw [h1, h2]
    exact ⟨s1, s2, q⟩
theorem l_truB {P : Bool → Prop} {x : Bool} (q : P x) : truR (.d (.bl x)) P := by unfold truR; exact q
theorem l_truI {P : Bool → Prop} (q : P (i != 0)) : truR (.d (.int i)) P := by unfold truR; exact q
theorem l_truN {P : Bool → Prop} (q : P false) : truR (.d .non) P := by unfold truR; exact q
theorem l_truT {P : Bool → Prop} (q : P (!ds.isEmpty)) : truR (.d (.tup ds)) P := by unfold truR; exact q
theorem l_truL {P : Bool → Prop} (hv : v.items = some ds) (q : P (!ds.isEmpty)) : truR v P := by
  unfold truR
  split
  · cases hv
  · cases hv
  · cases hv
  · cases hv
  · cases hv
  · rw [hv]; exact q
theorem l_tup {xs : List DV} (h : dats xs = some ds) (hl : Nat.ble ds.length szl = true) (q : Q (.d (.tup ds))) : tupR xs Q := by
  unfold tupR; rw [h]; exact ⟨Nat.le_of_ble_eq_true hl, q⟩
theorem l_lst {xs : List DV} (h : dats xs = some ds) (hl : Nat.ble ds.length szl = true) (q : Q (.own (.lst ds))) : lstR xs Q := by
  unfold lstR; rw [h]; exact ⟨Nat.le_of_ble_eq_true hl, q⟩
theorem l_iterT {P : List D → Prop} (q : P ds) : iterR (.d (.tup ds)) P := by unfold iterR; exact q
theorem l_iterS {P : List D → Prop} (q : P (signs z)) : iterR (.d (.str z)) P := by unfold iterR; exact q
theorem l_iterL {P : List D → Prop} (q : P ds) : iterR (.d (.lst ds)) P := by unfold iterR; exact q
theorem l_iterB {P : List D → Prop} (q : P ds) : iterR (.bor (.lst ds)) P := by unfold iterR; exact q
theorem l_rng1 {P : List D → Prop} (h1 : -(2 ^ 62) ≤ j) (h2 : j < 2 ^ 62) (q : P (intsFrom 0 j.toNat)) : rngR1 [.d (.int j)] P := by unfold rngR1; exact ⟨h1, h2, q⟩
theorem l_rng2 {P : List D → Prop} (h : -(2 ^ 62) ≤ i ∧ i < 2 ^ 62 ∧ -(2 ^ 62) ≤ j ∧ j < 2 ^ 62) (q : P (intsFrom i (j - i).toNat)) : rngR2 [.d (.int i), .d (.int j)] P := by unfold rngR2; exact ⟨h, q⟩
theorem l_enum {P : List D → Prop} (q : P (enumFrom 0 ds)) : enumR [.d (.lst ds)] P := by unfold enumR; exact q
theorem l_zipT {P : List D → Prop} (q : P (zipD ds es)) : zipR [.d (.tup ds), .d (.tup es)] P := by unfold zipR; exact q
theorem l_zipL {P : List D → Prop} (q : P (zipD ds es)) : zipR [.d (.lst ds), .d (.lst es)] P := by unfold zipR; exact q
theorem l_lenS (h : z.length ≤ szl) (q : Q (.d (.int z.length))) : lenR [.d (.str z)] Q := by unfold lenR; exact ⟨h, q⟩
theorem l_lenT (q : Q (.d (.int ds.length))) : lenR [.d (.tup ds)] Q := by unfold lenR; exact q
theorem l_lenL (hv : v.items = some ds) (q : Q (.d (.int ds.length))) : lenR [v] Q := by
  unfold lenR
  split
  · rename_i h; cases h; cases hv
  · rename_i h; cases h; cases hv
  · rename_i h; cases h; rw [hv]; exact q
  · rename_i h; exact absurd rfl (h v)
theorem l_int (q : Q (.d (.int i))) : intC [.d (.int i)] Q := by unfold intC; exact q
theorem l_abs (q : Q (.d (.int (if i < 0 then -i else i)))) : absR [.d (.int i)] Q := by unfold absR; exact q
theorem l_str (h : i.natAbs.log2 < 1920) (q : Q (.d (.str (toString i)))) : strR [.d (.int i)] Q := by unfold strR; exact ⟨h, q⟩
theorem l_listT (q : Q (.own (.lst ds))) : listR [.d (.tup ds)] Q := by unfold listR; exact q
theorem l_listL (hv : v.items = some ds) (q : Q (.own (.lst ds))) : listR [v] Q := by
  unfold listR
  split
  · rename_i h; cases h; cases hv
  · rename_i h; cases h; rw [hv]; exact q
  · rename_i h; exact absurd rfl (h v)
theorem l_tupleT (q : Q (.d (.tup ds))) : tupleR [.d (.tup ds)] Q := by unfold tupleR; exact q
theorem l_tupleL (hv : v.items = some ds) (q : Q (.d (.tup ds))) : tupleR [v] Q := by
  unfold tupleR
  split
  · rename_i h; cases h; cases hv
  · rename_i h; cases h; rw [hv]; exact q
  · rename_i h; exact absurd rfl (h v)
theorem l_all {bs : List Bool} (hv : v.items = some ds) (hb : bools ds = some bs) (q : Q (.d (.bl (bs.all id)))) : allR [v] Q := by
  unfold allR
  dsimp only
  rw [hv]
  dsimp only
  rw [hb]
  exact q
theorem l_gcd (q : Q (.d (.int (Int.gcd i j)))) : gcdR [.d (.int i), .d (.int j)] Q := by unfold gcdR; exact q
theorem l_inC {n : Bool} {c : Nat} (h : a.cps.toList = [c]) (q : Q (.d (.bl (if n then !decide (c ∈ z.cps.toList) else decide (c ∈ z.cps.toList))))) : inR n (.d (.str a)) (.d (.str z)) Q := by
  unfold inR
  dsimp only
  rw [h]
  exact q
theorem l_inT {n : Bool} (h1 : flatD d = true) (h2 : ds.all flatD = true) (q : Q (.d (.bl (if n then !inF d ds else inF d ds)))) : inR n (.d d) (.d (.tup ds)) Q := by
  unfold inR
  split
  · rename_i h; cases h
  · unfold inSeqR; exact ⟨h1, h2, q⟩
theorem items_cases (h : v.items = some ds) : v = .d (.lst ds) ∨ v = .own (.lst ds) ∨ v = .bor (.lst ds) ∨ v = .see (.lst ds) := by
  unfold DV.items at h
  split at h <;> first | (cases h; done) | (injection h with h; subst h; simp)
theorem l_inL {n : Bool} (hv : v.items = some ds) (h1 : flatD d = true) (h2 : ds.all flatD = true) (q : Q (.d (.bl (if n then !inF d ds else inF d ds)))) : inR n (.d d) v Q := by
  rcases items_cases hv with e | e | e | e <;> subst e <;> (unfold inR; unfold inSeqR; cases d <;> exact ⟨h1, h2, q⟩)
theorem l_ixT (h : atI ds i = some d) (q : Q (.d d)) : ixR (.d (.tup ds)) (.d (.int i)) Q := by
  unfold ixR
  dsimp only
  rw [h]; exact q
theorem l_ixS {c : Nat} (hz : z.length ≤ szl) (h : atI z.cps.toList i = some c) (q : Q (.d (.str ⟨#[c]⟩))) : ixR (.d (.str z)) (.d (.int i)) Q := by
  unfold ixR
  refine ⟨hz, ?_⟩
  rw [h]; exact q
theorem l_ixL (hv : v.items = some ds) (h : atI ds i = some d) (q : Q (.d d)) : ixR v (.d (.int i)) Q := by
  rcases items_cases hv with e | e | e | e <;> subst e <;> (unfold ixR; dsimp only [DV.items]; rw [h]; exact q)
theorem l_slT {lo hi : Option Int} (q : Q (.d (.tup (cut ds lo hi)))) : slR (.d (.tup ds)) lo hi Q := by unfold slR; exact q
theorem l_slS {lo hi : Option Int} (hz : z.length ≤ szl) (q : Q (.d (.str (cutS z lo hi)))) : slR (.d (.str z)) lo hi Q := by unfold slR; exact ⟨hz, q⟩
theorem l_slL {lo hi : Option Int} (hv : v.items = some ds) (q : Q (.own (.lst (cut ds lo hi)))) : slR v lo hi Q := by
  unfold slR
  split
  · cases hv
  · cases hv
  · rw [hv]; exact q
theorem l_join {ss : List Str} (hv : seqD v = some ds) (hs : strsD ds = some ss) (h : (ss.map (·.length)).sum + ss.length * a.length ≤ 16777216) (q : Q (.d (.str (Txt.join a ss)))) : joinR (.d (.str a)) v Q := by
  unfold joinR
  dsimp only
  rw [hv]
  dsimp only
  rw [hs]
  exact ⟨h, q⟩
end
end DL

set_option Elab.async false
set_option linter.all false
set_option maxRecDepth 100000
set_option autoImplicit false
set_option maxHeartbeats 2000000
/-! comprehensions and loops of a known course -/
namespace DL
open PySem PySem.Spec PyProof.Rows L2
section
variable {g : TDG} {tt : TDT} {te : TD} {vs : List Nat} {Q : DV → DSt → Prop}
theorem lcL_fm (p : D → Bool) (f : D → D) (S : DSt) : ∀ (ds acc : List D), acc.length + ds.length ≤ szl →
    (∀ d ∈ ds, ∀ (M : D → DSt → Prop) (A : DSt → Prop), (p d = true → M (f d) S) → (p d = false → A S) → g d S fun s1 => tt s1 (fun b s2 => Br b (te s2 (fun x s3 => match pubV x with
      | .d y => M y (wipeD s3 vs)
      | _ => False) fun _ _ _ => False) (A (wipeD s2 vs))) fun _ _ _ => False) →
    Q (.own (.lst (acc ++ (ds.filter p).map f))) S → dLcL g tt te vs Q ds acc S
  | [], acc, _, _, q => by rw [lcL_nil]; rw [List.filter_nil, List.map_nil, List.append_nil] at q; exact q
  | d :: r, acc, hl, step, q => by
    rw [lcL_cons]
    have hl2 : acc.length + (r.length + 1) ≤ szl := hl
    refine step d (List.mem_cons_self ..) (fun y s => acc.length < szl ∧ dLcL g tt te vs Q r (acc ++ [y]) s) (fun s => dLcL g tt te vs Q r acc s) (fun e => ⟨by omega, ?_⟩) (fun e => ?_)
    · refine lcL_fm p f S r _ (by rw [List.length_append, List.length_singleton]; omega) (fun d' h => step d' (List.mem_cons_of_mem _ h)) ?_
      rw [List.filter_cons_of_pos e, List.map_cons] at q
      rw [List.append_assoc, List.singleton_append]; exact q
    · refine lcL_fm p f S r _ (by omega) (fun d' h => step d' (List.mem_cons_of_mem _ h)) ?_
      rw [List.filter_cons_of_neg (by simp [e])] at q
      exact q
theorem lcL_map (f : D → D) (S : DSt) {ds : List D} (hl : ds.length ≤ szl)
    (step : ∀ d ∈ ds, ∀ (M : D → DSt → Prop) (A : DSt → Prop), M (f d) S → g d S fun s1 => tt s1 (fun b s2 => Br b (te s2 (fun x s3 => match pubV x with
      | .d y => M y (wipeD s3 vs)
      | _ => False) fun _ _ _ => False) (A (wipeD s2 vs))) fun _ _ _ => False) (q : Q (.own (.lst (ds.map f))) S) : dLcL g tt te vs Q ds [] S :=
  lcL_fm (fun _ => true) f S ds [] (by simpa using hl) (fun d h M A m _ => step d h M A (m rfl)) (by rw [List.filter_eq_self.mpr (fun _ _ => rfl)]; exact q)
/-- a comprehension whose entries are only known to be of a kind -/
theorem lcL_rel (R : D → Prop) (S : DSt) {ds0 : List D} (hl : ds0.length ≤ szl)
    (step : ∀ d ∈ ds0, ∀ (M : D → DSt → Prop) (A : DSt → Prop), (∀ y, R y → M y S) → g d S fun s1 => tt s1 (fun b s2 => Br b (te s2 (fun x s3 => match pubV x with
      | .d y => M y (wipeD s3 vs)
      | _ => False) fun _ _ _ => False) (A (wipeD s2 vs))) fun _ _ _ => False) (q : ∀ xs : List D, xs.length = ds0.length → (∀ x ∈ xs, R x) → Q (.own (.lst xs)) S) : dLcL g tt te vs Q ds0 [] S := by
  have go : ∀ (ds acc : List D), acc.length + ds.length = ds0.length → (∀ d ∈ ds, d ∈ ds0) → (∀ x ∈ acc, R x) → dLcL g tt te vs Q ds acc S := by
    intro ds
    induction ds with
    | nil => intro acc h1 _ h3; rw [lcL_nil]; exact q acc (by simpa using h1) h3
    | cons d r ih =>
      intro acc h1 h2 h3
      rw [List.length_cons] at h1
      rw [lcL_cons]
      refine step d (h2 d (List.mem_cons_self ..)) (fun y s => acc.length < szl ∧ dLcL g tt te vs Q r (acc ++ [y]) s) (fun s => dLcL g tt te vs Q r acc s) (fun y hy => ⟨by omega, ?_⟩)
      refine ih (acc ++ [y]) (by rw [List.length_append, List.length_singleton]; omega) (fun d' h => h2 d' (List.mem_cons_of_mem _ h)) (fun x hx => ?_)
      rcases List.mem_append.mp hx with h | h
      · exact h3 x h
      · rw [List.mem_singleton.mp h]; exact hy
  exact go ds0 [] (by simp) (fun _ h => h) (fun _ h => (nomatch h))
end
theorem bools_map {α : Type} (f : α → Bool) (xs : List α) : bools (xs.map fun x => D.bl (f x)) = some (xs.map f) := by
  induction xs with
  | nil => rfl
  | cons x r ih => show (bools (r.map fun x => D.bl (f x))).map (f x :: ·) = _; rw [ih]; rfl
theorem signs_len (z : Str) : (signs z).length = z.length := by simp [signs, Str.length]
theorem mem_signs {z : Str} {d : D} (h : d ∈ signs z) : ∃ c ∈ z.cps.toList, d = .str ⟨#[c]⟩ := by
  obtain ⟨c, h1, h2⟩ := List.mem_map.mp h
  exact ⟨c, h1, h2.symm⟩
end DL
namespace DL
open PySem PySem.Spec PyProof.Rows L2
theorem up_ss {X : Cx} (W : WX) {sts : List Stmt} {t : TDS} (h : DSs X W sts t) : PSs X sts (upS X.K W t) := h
theorem binds_of {K : PySem.W.Frag} {x qual : Str} {params : Arguments} {body : List Stmt} {scope : Scope} {kws : List (Str × V)} {f : Addr} {fd : FuncData} {ps : List Str} (F : FunD K x qual params body scope [] kws f fd)
    (h : ∀ (kV doc pm : Value) (an : Option Addr) (cdv ct : Value) (us : List Value), us.length = ps.length → bindArgs (PySem.W.fnOf x qual params body scope .none kV doc pm an cdv ct) ⟨us, []⟩ = pure (ps.zip us)) : Binds K fd ps [] := by
  obtain ⟨oc, od, dV, kV, doc, pm, an, cdv, ct, osl, rfl, lk, hcd, hD, hK⟩ := F.ex
  rcases hD with ⟨_, rfl⟩ | ⟨e, _⟩
  · exact Binds.all fun us hl => h kV doc pm an cdv ct us hl
  · exact absurd rfl e
theorem binds1_of {K : PySem.W.Frag} {x qual p : Str} {params : Arguments} {body : List Stmt} {scope : Scope} {kws : List (Str × V)} {f : Addr} {fd : FuncData} (F : FunD K x qual params body scope [] kws f fd)
    (h : ∀ (kV doc pm : Value) (an : Option Addr) (cdv ct : Value) (u : Value), bindArgs (PySem.W.fnOf x qual params body scope .none kV doc pm an cdv ct) ⟨[u], []⟩ = pure [(p, u)]) (s : Shared) (u : Value) : BindsTo s fd ⟨[u], []⟩ [(p, u)] := by
  obtain ⟨oc, od, dV, kV, doc, pm, an, cdv, ct, osl, rfl, lk, hcd, hD, hK⟩ := F.ex
  rcases hD with ⟨_, rfl⟩ | ⟨e, _⟩
  · exact .of_eq (h kV doc pm an cdv ct u)
  · exact absurd rfl e
end DL

set_option Elab.async false
set_option linter.all false
set_option maxRecDepth 100000
set_option autoImplicit false
set_option maxHeartbeats 2000000
/-! words and shown lists -/
namespace DL
open PySem PySem.Spec PyProof.Rows L2
abbrev sgS (c : Nat) : Str := ⟨#[c]⟩
abbrev sgD (c : Nat) : D := .str (sgS c)
abbrev wd (cs : List Nat) : Str := ⟨cs.toArray⟩
theorem wd_len (cs : List Nat) : (wd cs).length = cs.length := by simp [Str.length]
theorem strs_sg (cs : List Nat) : strsD (cs.map sgD) = some (cs.map sgS) := by
  induction cs with
  | nil => rfl
  | cons c r ih => show (strsD (r.map sgD)).map (sgS c :: ·) = _; rw [ih]; rfl
theorem sg_ex {A : List Nat} : ∀ {xs : List D}, (∀ x ∈ xs, ∃ c ∈ A, x = sgD c) → ∃ cs : List Nat, xs = cs.map sgD ∧ ∀ c ∈ cs, c ∈ A
  | [], _ => ⟨[], rfl, fun _ h => (nomatch h)⟩
  | x :: r, h => by
    obtain ⟨c, h1, h2⟩ := h x (List.mem_cons_self ..)
    obtain ⟨cs, h3, h4⟩ := sg_ex (xs := r) fun y hy => h y (List.mem_cons_of_mem _ hy)
    refine ⟨c :: cs, by rw [h2, h3]; rfl, fun e he => ?_⟩
    rcases List.mem_cons.mp he with z | z
    · rw [z]; exact h1
    · exact h4 e z
theorem joinL_sg : ∀ cs : List Nat, TL.joinL [] (cs.map fun c => [c]) = cs
  | [] => rfl
  | [_] => rfl
  | c :: e :: r => by
    show [c] ++ ([] ++ TL.joinL [] ((e :: r).map fun c => [c])) = _
    rw [joinL_sg (e :: r)]; rfl
theorem join_sg (cs : List Nat) : Txt.join "" (cs.map sgS) = wd cs := by
  refine TL.ext_tl ?_
  rw [TL.join_eq, TL.tl_join, List.map_map]
  exact joinL_sg cs
theorem sum_sg (cs : List Nat) : ((cs.map sgS).map (·.length)).sum = cs.length := by
  induction cs with
  | nil => rfl
  | cons c r ih => rw [List.map_cons, List.map_cons, List.sum_cons, ih, List.length_cons]; show 1 + _ = _; omega
theorem l_joinW {v : DV} {cs : List Nat} {Q : DV → Prop} (hv : seqD v = some (cs.map sgD)) (hl : cs.length ≤ szl) (q : Q (.d (.str (wd cs)))) : joinR (.d (.str "")) v Q := by
  refine l_join hv (strs_sg cs) ?_ (by rw [join_sg]; exact q)
  rw [sum_sg, List.length_map]
  show cs.length + cs.length * 0 ≤ _
  have : szl = 16777216 := rfl
  omega
end DL
namespace DL
open PySem PySem.Spec PyProof.Rows L2
section
variable {t u : TDS} {te : TD} {E : EndsD} {sl : DSt} {i : Nat}
/-- a row, and what holds of the slots behind it -/
theorem seq_cut (P : DSt → Prop) (h : ∀ N : DSt → Prop, (∀ s, P s → N s) → t { E with nx := N } sl) (q : ∀ s, P s → u E s) : dSeq t u E sl := h _ q
/-- name = value, the value known -/
theorem set_cut (x : D) (h : ∀ Q : DV → DSt → Prop, Q (.d x) sl → te sl Q E.xc) (q : u E (sl.set i (some (.d x)))) : dSeq (dSet te i) u E sl := h _ q
theorem set_cutL (ds : List D) (h : ∀ Q : DV → DSt → Prop, Q (.own (.lst ds)) sl → te sl Q E.xc) (q : u E (sl.set i (some (.own (.lst ds))))) : dSeq (dSet te i) u E sl := h _ q
/-- the value only known to be of a kind -/
theorem set_cutP (R : D → Prop) (h : ∀ Q : DV → DSt → Prop, (∀ x, R x → Q (.d x) sl) → te sl Q E.xc) (q : ∀ x, R x → u E (sl.set i (some (.d x)))) : dSeq (dSet te i) u E sl := h _ q
end
theorem eqv_nil (ps : List PyData) : PyData.eqv (.list ps) (.list []) = ps.isEmpty := by
  cases ps <;> simp [PyData.eqv, PyData.eqvAll]
theorem textFrom_le (L : Nat) : ∀ (ts : List Str) (k : Nat) (acc : Str), (∀ t ∈ ts, t.length ≤ L) → (PySem.textFrom k acc ts).length ≤ acc.length + ts.length * (L + 2)
  | [], k, acc, _ => by show acc.length ≤ _; omega
  | t :: r, k, acc, h => by
    have h1 := textFrom_le L r (k + 1) (acc ++ (if k > 0 then ", " else "" : String) ++ t) fun y hy => h y (List.mem_cons_of_mem _ hy)
    have h2 := h t (List.mem_cons_self ..)
    have e : (acc ++ (if k > 0 then ", " else "" : String) ++ t).length = acc.length + (if k > 0 then 2 else 0) + t.length := by
      rw [strLen_append, strLen_append]
      split <;> rfl
    rw [e] at h1
    show (PySem.textFrom (k + 1) (acc ++ (if k > 0 then ", " else "" : String) ++ t) r).length ≤ _
    rw [List.length_cons, Nat.add_mul]
    have h3 : (if k > 0 then 2 else 0) ≤ 2 := by split <;> omega
    omega
theorem join_le (L : Nat) : ∀ ts : List Str, (∀ t ∈ ts, t.length ≤ L) → (Str.join ", " ts).length ≤ ts.length * (L + 2)
  | [], _ => by show 0 ≤ _; omega
  | [x], h => by have := h x (List.mem_cons_self ..); show x.length ≤ 1 * (L + 2); omega
  | x :: y :: r, h => by
    have h1 := join_le L (y :: r) fun t ht => h t (List.mem_cons_of_mem _ ht)
    have h2 := h x (List.mem_cons_self ..)
    show (x ++ ", " ++ Str.join ", " (y :: r)).length ≤ (r.length + 1 + 1) * (L + 2)
    rw [strLen_append, strLen_append]
    have e2 : ((", " : String) : Str).length = 2 := rfl
    rw [List.length_cons] at h1
    rw [Nat.add_mul (r.length + 1)]
    omega
/-- a tree that is shown, with its depth and a bound on the text -/
structure Shw (n L : Nat) (d : D) (p : PyData) : Prop where
  py : d.py = some p
  lay : p.canLay0 = true
  dp : p.depth ≤ n
  sw : p.showable = true
  ln : p.shown.length ≤ L
inductive ShwAll (n L : Nat) : List D → List PyData → Prop where
  | nil : ShwAll n L [] []
  | cons {d : D} {p : PyData} {ds : List D} {ps : List PyData} (h : Shw n L d p) (t : ShwAll n L ds ps) : ShwAll n L (d :: ds) (p :: ps)
theorem ShwAll.map {n L : Nat} {α : Type} {f : α → D} {g : α → PyData} : ∀ {xs : List α}, (∀ x ∈ xs, Shw n L (f x) (g x)) → ShwAll n L (xs.map f) (xs.map g)
  | [], _ => .nil
  | x :: r, h => .cons (h x (List.mem_cons_self ..)) (ShwAll.map fun y hy => h y (List.mem_cons_of_mem _ hy))
namespace Shw
variable {n m L M : Nat} {d : D} {p : PyData}
theorem mono (h : Shw n L d p) (h1 : n ≤ m) (h2 : L ≤ M) : Shw m M d p := ⟨h.py, h.lay, Nat.le_trans h.dp h1, h.sw, Nat.le_trans h.ln h2⟩
theorem non : Shw 0 4 .non .none := ⟨rfl, by simp [PyData.canLay0], by simp [PyData.depth], by simp [PyData.showable], by simp [PyData.shown]; decide⟩
theorem bl (b : Bool) : Shw 0 5 (.bl b) (.bool b) := ⟨rfl, by simp [PyData.canLay0], by simp [PyData.depth], by simp [PyData.showable], by cases b <;> simp [PyData.shown] <;> decide⟩
theorem str {z : Str} (h : ∀ c ∈ z.cps.toList, c < 0x110000) (hl : z.length ≤ m) : Shw 0 (10 * m + 2) (.str z) (.str z) := by
  refine ⟨rfl, ?_, by simp [PyData.depth], by simp [PyData.showable], ?_⟩
  · simp only [PyData.canLay0, PyData.strOk]
    rw [Array.all_eq_true']
    intro c hc
    exact decide_eq_true (h c (Array.mem_def.mp hc))
  · have := PySem.StrLaws.reprText_len z fun c hc => Nat.lt_trans (h c hc) (by decide)
    simp only [PyData.shown]
    omega
theorem int {i : Int} {k : Nat} (hk : 0 < k) (h2 : k ≤ 500) (h0 : 0 ≤ i) (h : i < 10 ^ k) : Shw 0 k (.int i) (.int i) := by
  refine ⟨rfl, by simp [PyData.canLay0], by simp [PyData.depth], ?_, ?_⟩
  · simp only [PyData.showable]
    refine decide_eq_true ?_
    rcases Nat.eq_zero_or_pos i.natAbs with z | z
    · rw [z]; decide
    refine (Nat.log2_lt (by omega)).mpr ?_
    have h3 : i.natAbs < 10 ^ k := by
      have : ((i.natAbs : Nat) : Int) < ((10 ^ k : Nat) : Int) := by rw [Int.natAbs_of_nonneg h0]; simpa using h
      exact Int.ofNat_lt.mp this
    refine Nat.lt_of_lt_of_le h3 (Nat.le_trans (Nat.pow_le_pow_right (by decide) h2) ?_)
    decide +kernel
  · simp only [PyData.shown]
    exact toString_length_le h0 hk h
theorem all : ∀ {ds : List D} {ps : List PyData}, ShwAll n L ds ps → D.pyAll ds = some ps ∧ PyData.canLayAll0 ps = true ∧ PyData.depthAll ps ≤ n ∧ PyData.showableAll ps = true ∧ (∀ t ∈ PyData.shownAll ps, t.length ≤ L) ∧ (PyData.shownAll ps).length = ds.length
  | _, _, .nil => ⟨by simp [D.pyAll], by simp [PyData.canLayAll0], by simp [PyData.depthAll], by simp [PyData.showableAll], by simp [PyData.shownAll], by simp [PyData.shownAll]⟩
  | _, _, .cons (d := d) (p := p) (ds := ds) (ps := ps) h t => by
    obtain ⟨h1, h2, h3, h4, h5, h6⟩ := all t
    refine ⟨?_, ?_, ?_, ?_, ?_, ?_⟩
    · unfold D.pyAll; rw [h.py, h1]
    · unfold PyData.canLayAll0; rw [h.lay, h2]; rfl
    · unfold PyData.depthAll; exact Nat.max_le.mpr ⟨h.dp, h3⟩
    · unfold PyData.showableAll; rw [h.sw, h4]; rfl
    · unfold PyData.shownAll
      intro t ht
      rcases List.mem_cons.mp ht with z | z
      · rw [z]; exact h.ln
      · exact h5 t z
    · unfold PyData.shownAll; rw [List.length_cons, List.length_cons, h6]
theorem lst {ds : List D} {ps : List PyData} (h : ShwAll n L ds ps) (hl : ds.length ≤ m) : Shw (n + 1) (m * (L + 2) + 2) (.lst ds) (.list ps) := by
  obtain ⟨h1, h2, h3, h4, h5, h6⟩ := all h
  refine ⟨by unfold D.py; rw [h1]; rfl, by unfold PyData.canLay0; exact h2, by unfold PyData.depth; omega, by unfold PyData.showable; exact h4, ?_⟩
  unfold PyData.shown listText
  rw [strLen_append]
  have := textFrom_le L (PyData.shownAll ps) 0 "[" h5
  have e1 : (("[" : String) : Str).length = 1 := rfl
  have e2 : (("]" : String) : Str).length = 1 := rfl
  rw [h6] at this
  have := Nat.mul_le_mul_right (L + 2) hl
  omega
theorem tup {ds : List D} {ps : List PyData} (h : ShwAll n L ds ps) (hl : ds.length ≤ m) : Shw (n + 1) (m * (L + 2) + 3) (.tup ds) (.tuple ps) := by
  obtain ⟨h1, h2, h3, h4, h5, h6⟩ := all h
  refine ⟨by unfold D.py; rw [h1]; rfl, by unfold PyData.canLay0; exact h2, by unfold PyData.depth; omega, by unfold PyData.showable; exact h4, ?_⟩
  unfold PyData.shown tupleText
  rw [strLen_append, strLen_append]
  have e1 : (("(" : String) : Str).length = 1 := rfl
  have e2 : ((if (PyData.shownAll ps).length == 1 then ",)" else ")" : String) : Str).length ≤ 2 := by split <;> decide
  have e3 : (Str.join ", " (PyData.shownAll ps)).length ≤ m * (L + 2) := by
    have j := join_le L (PyData.shownAll ps) h5
    rw [h6] at j
    exact Nat.le_trans j (Nat.mul_le_mul_right _ hl)
  omega
end Shw
theorem Shw.shows {n L : Nat} {d : D} {p : PyData} (h : Shw n L d p) (hs : (∃ ds, d = .lst ds) ∨ ∃ ds, d = .tup ds) (h1 : n ≤ 64) (h2 : L ≤ szl) : Shows d p := ⟨h.py, hs, by simp [SeqAt.shaped, h.lay, Nat.le_trans h.dp h1], h.sw, Nat.le_trans h.ln h2⟩
end DL

set_option Elab.async false
set_option linter.all false
set_option maxRecDepth 100000
set_option autoImplicit false
set_option maxHeartbeats 2000000
/-! the head: what the top has written, by names -/
namespace DL
open PySem PySem.Spec PyProof.Rows L2
mutual
def datB (K : PySem.W.Frag) : D → Value → Bool
  | .non, u => (match u with | .none => true | _ => false)
  | .bl b, u => (match u with | .bool c => b == c | _ => false)
  | .int i, u => (match u with | .int j _ => decide (i = j) | _ => false)
  | .str x, u => (match u with | .str y _ => decide (x = y) | _ => false)
  | .tup ds, u => (match u with
    | .ref a => (match K.lookup a with
      | some ⟨.type c, _, .seq its _, _⟩ => decide (c = "tuple") && (decide (its.size ≤ sizeLine) && datsB K ds its.toList)
      | _ => false)
    | _ => false)
  | _, _ => false
def datsB (K : PySem.W.Frag) : List D → List Value → Bool
  | [], us => us.isEmpty
  | d :: ds, us => (match us with
    | u :: r => datB K d u && datsB K ds r
    | [] => false)
end
mutual
theorem datB_ok {K : PySem.W.Frag} : ∀ (d : D) (u : Value), datB K d u = true → ∃ v, RelV v u ∧ ∀ G, DOk K G v d
  | .non, u, h => by
    unfold datB at h
    split at h
    · exact ⟨.non, rfl, fun _ => .non⟩
    · cases h
  | .bl b, u, h => by
    unfold datB at h
    split at h
    · have e := eq_of_beq h
      exact ⟨.bl b, by rw [e]; rfl, fun _ => .bl b⟩
    · cases h
  | .int i, u, h => by
    unfold datB at h
    split at h
    · rename_i t
      exact ⟨.int i, ⟨t, by rw [of_decide_eq_true h]⟩, fun _ => .int i⟩
    · cases h
  | .str x, u, h => by
    unfold datB at h
    split at h
    · rename_i t
      exact ⟨.str x, ⟨t, by rw [of_decide_eq_true h]⟩, fun _ => .str x⟩
    · cases h
  | .tup ds, u, h => by
    unfold datB at h
    split at h
    · rename_i a
      split at h
      · rename_i c od its n sl q
        obtain ⟨h1, h2⟩ := He.ba h
        obtain ⟨h3, h4⟩ := He.ba h2
        obtain ⟨vs, r, w⟩ := datsB_ok ds its.toList h4
        exact ⟨.ref a, rfl, fun G => .tup (.inr ⟨_, its, n, q, congrArg Value.type (of_decide_eq_true h1), rfl, of_decide_eq_true h3, r⟩) (w G)⟩
      · cases h
    · cases h
  | .lst _, _, h => by unfold datB at h; cases h
  | .ins _ _, _, h => by unfold datB at h; cases h
  | .raw _, _, h => by unfold datB at h; cases h
theorem datsB_ok {K : PySem.W.Frag} : ∀ (ds : List D) (us : List Value), datsB K ds us = true → ∃ vs, Vals vs us ∧ ∀ G, DAll K G vs ds
  | [], us, h => by
    unfold datsB at h
    rw [List.isEmpty_iff] at h
    subst h
    exact ⟨[], .nil, fun _ => .nil⟩
  | d :: ds, us, h => by
    unfold datsB at h
    split at h
    · rename_i u r
      obtain ⟨h1, h2⟩ := He.ba h
      obtain ⟨v, r1, w1⟩ := datB_ok d u h1
      obtain ⟨vs, r2, w2⟩ := datsB_ok ds r h2
      exact ⟨v :: vs, .cons r1 r2, fun G => .cons (w1 G) (w2 G)⟩
    · cases h
end
def gloB (K : PySem.W.Frag) (q : Str × D) : Bool := match PySem.W.nsIn K mainGlobals q.1 with
  | some (some u) => datB K q.2 u
  | _ => false
theorem gloB_ok {K : PySem.W.Frag} {h : Heap} {mg : Str → Option Value} (X : K.In h) (G : h.Ns mainGlobals mg) {x : Str} {d : D} (c : gloB K (x, d) = true) : GlobD K mg x d := by
  unfold gloB at c
  split at c
  · rename_i u e
    obtain ⟨v, r, w⟩ := datB_ok d u c
    exact ⟨v, u, PySem.W.mg_of X G e, r, w⟩
  · cases c
/-- the Hook: names, defs, and constants -/
abbrev AlX : Type := Bool × He.AlD
def obsX (cs : List (Str × D)) (fa : List He.Fa) (fn : List He.DefD) (K : PySem.W.Frag) : AlX := (cs.all (gloB K), He.obsD fa fn K)
def valX (fn : List He.DefD) : AlX := (true, He.valD fn)
structure SaysX (cs : List (Str × D)) (fa : List He.Fa) (fn : List He.DefD) (K : PySem.W.Frag) : Prop where
  c : cs.all (gloB K) = true
  s : He.SaysD fa fn K
def obsXG (n : Nat) (cs : List (Str × D)) (fa : List He.Fa) (fn : List He.DefD) (g : Addr → Option Obj) : AlX := obsX cs fa fn (He.frG g (He.asD g n))
def hookX (n : Nat) (cs : List (Str × D)) (fa : List He.Fa) (fn : List He.DefD) : PySem.W.Hook where
  α := AlX
  obs := fun s => obsXG n cs fa fn s.heap.get?
  val := fun _ => valX fn
  says := fun _ h => ∃ K : PySem.W.Frag, K.In h ∧ SaysX cs fa fn K
  of := fun _ _ e => ⟨_, He.frG_in, ⟨congrArg (fun z : AlX => z.1) e, congrArg (fun z : AlX => z.2) e⟩⟩
  keeps := fun _ _ _ ⟨K, hK, c⟩ k => ⟨K, PySem.W.Frag.In.keeps hK k, c⟩
theorem obsXG_eq {n : Nat} {cs : List (Str × D)} {fa : List He.Fa} {fn : List He.DefD} {g : Addr → Option Obj} {s : Shared} (h : ∀ a, g a = s.heap.get? a) : obsXG n cs fa fn g = (hookX n cs fa fn).obs s := by
  have e : g = s.heap.get? := funext h
  rw [e] <;> rfl
theorem SaysX.glob {cs : List (Str × D)} {fa : List He.Fa} {fn : List He.DefD} {K : PySem.W.Frag} {h : Heap} {mg : Str → Option Value} (S : SaysX cs fa fn K) (X : K.In h) (G : h.Ns mainGlobals mg) (i : Nat) {x : Str} {d : D} (e : cs[i]? = some (x, d) := by rfl) : GlobD K mg x d :=
  gloB_ok X G (List.all_eq_true.mp S.c _ (List.mem_of_getElem? e))
/-- the law's end -/
theorem walk_ofX {l : PySem.W.OpenLaw} {n k : Nat} {q : Program} {loose : List Str} {XP : (Str → Option Value) → Heap → Prop} {YP : World → Heap → Prop} {d : DefRec} {x : Str}
    (hn : l.most = some n) (hn2 : n ≤ sizeLine) (hdf : d.params.defaults = []) (hr : Room k callerA)
    (F : ∀ (w : World) (mg : Str → Option Value) (fa : Addr) (h : Heap), YP w h → h.Ns mainGlobals mg → mg d.name = some (.ref fa) →
      ∃ (K : PySem.W.Frag) (fd : FuncData) (sp : Sp), K.In h ∧ (∀ (s : Shared) (u : Value), BindsTo s fd ⟨[u], []⟩ [(x, u)]) ∧
        (∀ (H : Hp) (a : Addr) (ns : List Int), ns.length ≤ n → SqL K H a (ns.map V.int) → sp [.ref a] H (fun v _ => v = .bl true) fun _ _ _ => False) ∧
        ∀ base : Heap, K.In base → base.Ns mainGlobals mg → FnR l.prog w K mg base k fa fd [x] sp) :
    PySem.W.WalkO q loose XP YP l.row.toRowW d [] (fun f vs => PySem.call f vs) := by
  refine Att.attach_call hn hdf fun w s0 s1 mg mb fa o pm cd doc a vs ns G Y ho hd hcd hmg hobj hints hlen hg => ?_
  obtain ⟨K, fd, sp, KX, hb, hsp, hF⟩ := F w mg fa _ Y G.T.g hmg
  exact law_callG KX G.T.g G.T.b G.T.builtins G.T.nolimit hg hobj hints (Nat.le_trans hlen hn2) hr hF hb fun H hS => hsp H a ns hlen hS
end DL

set_option Elab.async false
set_option linter.all false
set_option maxRecDepth 100000
set_option maxHeartbeats 2000000
namespace K05
open PySem PySem.Spec PyProof.Rows L2 DL
def topS (i : Nat) : Stmt := PySem.Challenge.pw_missingmiles_k05_names_and_layers.main.body.getD i (.Pass ⟨0, 0, 0, 0⟩)
abbrev s_is_name : Stmt := topS 4
abbrev s_is_layer : Stmt := topS 5
abbrev s__law_source : Stmt := topS 7
abbrev s__law_draw : Stmt := topS 8
abbrev s__law_of : Stmt := topS 9
abbrev s__law_same : Stmt := topS 10
abbrev s_law : Stmt := topS 11
abbrev Fd (K : PySem.W.Frag) (x : Str) (st : Stmt) (dvs : List V) (f : Addr) (fd : FuncData) : Prop := FunD K x x (defArgs st) (defBody st) (defScope st) dvs [] f fd
structure Tx (K : PySem.W.Frag) (mg : Str → Option Value) (a : Nat → Addr) (d : Nat → FuncData) : Prop where
  F_is_name : Fd K "is_name" s_is_name [] (a 0) (d 0)
  m_is_name : mg "is_name" = some (.ref (a 0))
  F_is_layer : Fd K "is_layer" s_is_layer [.int 2] (a 1) (d 1)
  m_is_layer : mg "is_layer" = some (.ref (a 1))
  F__law_source : Fd K "_law_source" s__law_source [] (a 2) (d 2)
  m__law_source : mg "_law_source" = some (.ref (a 2))
  F__law_draw : Fd K "_law_draw" s__law_draw [] (a 3) (d 3)
  m__law_draw : mg "_law_draw" = some (.ref (a 3))
  F__law_of : Fd K "_law_of" s__law_of [] (a 4) (d 4)
  m__law_of : mg "_law_of" = some (.ref (a 4))
  F__law_same : Fd K "_law_same" s__law_same [] (a 5) (d 5)
  m__law_same : mg "_law_same" = some (.ref (a 5))
  F_law : Fd K "law" s_law [] (a 6) (d 6)
  n_isinstance : mg "isinstance" = none
  n_str : mg "str" = none
  n_len : mg "len" = none
  n_all : mg "all" = none
  n_int : mg "int" = none
  n_list : mg "list" = none
  n_repr : mg "repr" = none
  n_range : mg "range" = none
  c_LETTERS : GlobD K mg "LETTERS" (.str "abcdefghijklmnopqrstuvwxyz")
  c_LAYERS : GlobD K mg "LAYERS" (.tup [.str "foot", .str "cart"])
  c_STRANGERS : GlobD K mg "STRANGERS" (.tup [.str "?1", .str "?2"])
theorem cutV_map (ns : List Int) (lo hi : Option Int) : cutV (ns.map V.int) lo hi = (cut ns lo hi).map V.int := by
  unfold cutV cut
  rw [List.length_map, List.map_take, List.map_drop]
section
variable {P : Program} {w : World} {K : PySem.W.Frag} {mg : Str → Option Value} {base : Heap} {a : Nat → Addr} {d : Nat → FuncData}
/-! ### the source -/
abbrev n__law_source : List Str := ["_law_script", "_law_seed", "_law_cell"]
theorem sc__law_source : FnScope n__law_source ["_law_script"] (defScope s__law_source) := ⟨rfl, rfl, rfl, by decide +kernel, rfl, by decide +kernel, by decide +kernel⟩
theorem ok__law_source (T : Tx K mg a d) : FnR P w K mg base 1 (a 2) (d 2) ["_law_script"] (spSource K) := by
  refine fnR_of T.F__law_source sc__law_source (fun vs H Q E h => ?_) (fun cdv A outer s H vs Q E hr hg h => ?_)
  · obtain ⟨c, ns, rfl, _⟩ := h; rfl
  · obtain ⟨c, ns, rfl, hS, hlen, q⟩ := h
    refine ⟨_, pss_cons (ps_set (i := 1) sc__law_source.nd rfl (.inl rfl) pe_int)
      (pss_cons (ps_for (passes_of rfl) rfl (pi_list (pe_slice sl_list (pv 0) po_none (po_some pe_int))) (pg_name (i := 2) sc__law_source.nd rfl (.inl rfl))
        (pss_one (ps_set (i := 1) sc__law_source.nd rfl (.inl rfl) (pe_op op_mod (pe_callTy call_int1 (by rfl) T.n_int (by decide +kernel) (pa_cons (pe_op op_add (pe_op op_add (pe_op op_mul (pv 1) pe_int) (pe_op op_mod (pe_callTy call_int1 (by rfl) T.n_int (by decide +kernel) (pa_cons (pv 2) pa_nil)) pe_int)) pe_int) pa_nil)) pe_int))))
      (pss_one (ps_ret (pe_lst (pa_cons (pe_callTy call_list_of (by rfl) T.n_list (by decide +kernel) (pa_cons (pe_slice sl_list (pv 0) po_none (po_some pe_int)) pa_nil)) (pa_cons pe_int (pa_cons pe_int (pa_cons (pv 1) (pa_cons pe_int pa_nil))))))))), ?_⟩
    refine ⟨.ref c, rfl, 63, rfl, c, ns.map V.int, rfl, hS, fun l nl => ⟨l, rfl, ⟨_, SqL.of upd_same⟩, ?_⟩⟩
    refine for_list (K := K) (a := l) (xs := cutV (ns.map V.int) none (some 63)) (fun i σ H2 => ∃ sd v, σ = [some (.ref c), some (.int sd), v] ∧ Ex H H2 ∧ H2 l = some (.lst (cutV (ns.map V.int) none (some 63))) ∧ 0 ≤ sd ∧ sd < 4294967296) ⟨10040, none, rfl, Ex.new nl, upd_same, by decide, by decide⟩ (fun i σ H2 _ ⟨_, _, _, _, e, _⟩ => SqL.of e) ?_ ?_
    · rintro i y σ H2 hi ⟨sd, v, rfl, ex, el, h0, h1⟩
      obtain ⟨z, rfl⟩ : ∃ z, y = V.int z := by
        rw [cutV_map, List.getElem?_map] at hi
        cases e : (cut ns none (some 63))[i]? with
        | none => rw [e] at hi; cases hi
        | some z => rw [e] at hi; exact ⟨z, (Option.some.inj hi).symm⟩
      refine ⟨_, rfl, _, _, rfl, rfl, .inr ⟨by decide, by decide⟩, _, rfl, .inl ⟨z, rfl, _, _, rfl, rfl, (by show (0 : Int) < 2147483353; decide), _, _, rfl, rfl, _, _, rfl, rfl, .inl ⟨_, rfl, _, _, rfl, rfl, (by show (0 : Int) < 2147483587; decide), ?_⟩⟩⟩
      refine ⟨_, _, rfl, ex, el, Int.emod_nonneg _ (by decide), Int.lt_trans (Int.emod_lt_of_pos _ (by decide)) (by decide)⟩
    · rintro σ H2 ⟨sd, v, rfl, ex, el, h0, h1⟩
      refine ⟨.ref c, rfl, 63, rfl, c, ns.map V.int, rfl, ex_l ex hS, fun l2 n2 => ⟨l2, _, rfl, .inl (SqL.of upd_same), fun l3 n3 => ?_⟩⟩
      refine ⟨.int sd, rfl, by show 5 ≤ sizeLine; decide, fun p np => ?_⟩
      have n23 : H2 l3 = none := (Ex.new (o := .lst (cutV (ns.map V.int) none (some 63))) n2).free n3
      have e3 : Ex H2 (upd (upd (upd H2 l2 (.lst (cutV (ns.map V.int) none (some 63)))) l3 (.lst (cutV (ns.map V.int) none (some 63)))) p (.lst [.ref l3, .int 0, .int 0, .int sd, .int 0])) := (Ex.new n2).trans ((Ex.new n3).trans (Ex.new np))
      have ne : l3 ≠ p := fun e => by subst e; rw [upd_same] at np; cases np
      refine q _ p l3 (cut ns none (some 63)) sd (ex.trans e3) ne upd_same (by rw [upd_ne ne, upd_same, cutV_map]) ?_ h0 h1
      exact Nat.le_trans (by unfold cut; rw [List.length_take, List.length_drop]; omega) hlen
/-! ### a draw -/
abbrev n__law_draw : List Str := ["_law_src", "_law_many", "_law_cell", "_law_digit", "_law_root", "_law_grown"]
theorem sc__law_draw : FnScope n__law_draw ["_law_src", "_law_many"] (defScope s__law_draw) := ⟨rfl, rfl, rfl, by decide +kernel, rfl, by decide +kernel, by decide +kernel⟩
def SrcAt (p : Addr) (H H2 : Hp) (c : Addr) (i r sd n : Int) : Prop := (∀ b, b ≠ p → H2 b = H b) ∧ H2 p = some (.lst [.ref c, .int i, .int r, .int sd, .int n]) ∧ 0 ≤ i ∧ 0 ≤ r ∧ 0 ≤ sd ∧ sd < 4294967296
theorem small_log {m : Int} (h0 : 0 < m) (h : m < 2 ^ 64) : m.natAbs.log2 < 9000 := by
  have : m.natAbs.log2 < 64 := (Nat.log2_lt (by omega)).mpr (by omega)
  omega
theorem mod_lt64 {x m : Int} (h0 : 0 < m) (h : m ≤ 4294967296) : (-(2 ^ 64) < x % m ∧ x % m < 2 ^ 64) ∧ 0 ≤ x % m ∧ x % m < m := by
  have h1 := Int.emod_nonneg x (show m ≠ 0 by omega)
  have h2 := Int.emod_lt_of_pos x h0
  exact ⟨⟨by omega, by omega⟩, h1, h2⟩
theorem ok__law_draw (T : Tx K mg a d) : FnG P w K mg base 1 (a 3) (d 3) ["_law_src", "_law_many"] spDraw := by
  refine FnR.g (fnR_of T.F__law_draw sc__law_draw (fun vs H Q E h => ?_) (fun cdv A outer s H vs Q E hr hg h => ?_)) (fun args Q E h => ?_)
  · obtain ⟨G, so, as, QD, ED, _, w1, ⟨m, rfl, _⟩, _⟩ := h
    exact w1.length
  · obtain ⟨G, so, as, QD, ED, hrep, w1, ⟨m, rfl, hm0, hm1, hq⟩, hQ, _⟩ := h
    obtain ⟨v1, v2, rfl, ⟨p, rfl, rfl⟩, wm, _⟩ := w1.v2
    cases wm
    obtain ⟨gp, c, ms, i0, r0, sd0, n0, hp, hc, hms, hi0, hr0, hs0, hs1⟩ := hrep.src p rfl
    -- what is handed back
    have fin : ∀ (H2 : Hp) (i r sd n k : Int), SrcAt p H H2 c i r sd n → 0 ≤ k → k < m → Q (.int k) H2 := fun H2 i r sd n k ⟨e1, e2, e3, e4, e5, e6⟩ k0 k1 => by
      refine hQ (.int k) H2 G (.d (.int k)) ⟨Ex.refl G, ⟨fun b o e => ?_, fun b e => ?_⟩, fun b o e sb => ?_, fun _ _ g _ => g, .int k, fun _ _ z => (nomatch z), fun _ z => (nomatch z)⟩ (hq k k0 k1)
      · rw [e1 b (fun z => by subst z; rw [gp] at e; cases e)]; exact hrep.ex b o e
      · cases e; exact ⟨gp, c, ms, i, r, sd, n, e2, hc, hms, e3, e4, e5, e6⟩
      · rw [e1 b (fun z => sb (by rw [z]))]; exact e
    have cells : ∀ {H2 : Hp}, (∀ b, b ≠ p → H2 b = H b) → SqL K H2 c (ms.map V.int) := fun {H2} e1 => ex_l (fun b o e => by
      rw [e1 b (fun z => by subst z; rw [gp] at e; cases e)]; exact hrep.ex b o e) hc
    obtain ⟨t2, pt2, key⟩ : ∃ t2, PSs (cxOf (L2.CX P w) P w K mg base n__law_draw "_law_draw" (defScope s__law_draw) (a 3) cdv A outer s H E) ((defBody s__law_draw).drop 1) t2 ∧
        ∀ (H2 : Hp) (i r sd n : Int) (y : Option V), SrcAt p H H2 c i r sd n → t2 { nx := fun _ H' => Q .non H', rt := Q } [some (.ref p), some (.int m), y, none, none, none] H2 := by
      refine ⟨_, pss_cons (ps_if (pt_cmpR op_ge (pe_ix ix_list (pv 0) pe_int (fun _ _ => rfl)) (pv 1) (nomark _))
          (pss_cons (ps_set (i := 3) sc__law_draw.nd rfl (.inl rfl) (pe_op op_mod (pe_callTy call_int1 (by rfl) T.n_int (by decide +kernel) (pa_cons (pe_ix ix_list (pv 0) pe_int (fun _ _ => rfl)) pa_nil)) (pv 1)))
          (pss_cons (ps_asg (pe_op op_fdivW (pe_ix ix_list (pv 0) pe_int (fun _ _ => rfl)) (pv 1)) (pg_sub (pv 0) pe_int set_list))
          (pss_one (ps_ret (pv 3))))) pss_nil)
        (pss_cons (ps_asg (pe_op op_add (pe_ix ix_list (pv 0) pe_int (fun _ _ => rfl)) pe_int) (pg_sub (pv 0) pe_int set_list))
        (pss_cons (ps_set (i := 4) sc__law_draw.nd rfl (.inl rfl) (pe_op op_mod (pe_callTy call_int1 (by rfl) T.n_int (by decide +kernel) (pa_cons (pe_op op_add (pe_ix ix_list (pv 0) pe_int (fun _ _ => rfl)) (pe_op op_mul (pe_ix ix_list (pv 0) pe_int (fun _ _ => rfl)) pe_int)) pa_nil)) pe_int))
        (pss_cons (ps_set (i := 5) sc__law_draw.nd rfl (.inl rfl) (pe_op op_mul (pe_op op_mod (pe_callTy call_int1 (by rfl) T.n_int (by decide +kernel) (pa_cons (pe_op op_mul (pv 4) (pv 4)) pa_nil)) pe_int) (pe_op op_add (pe_op op_mod (pe_callTy call_int1 (by rfl) T.n_int (by decide +kernel) (pa_cons (pv 4) pa_nil)) pe_int) pe_int)))
        (pss_cons (ps_asg (pe_op op_mod (pe_callTy call_int1 (by rfl) T.n_int (by decide +kernel) (pa_cons (pe_op op_add (pe_op op_add (pv 5) (pe_op op_mul pe_int (pv 4))) pe_int) pa_nil)) pe_int) (pg_sub (pv 0) pe_int set_list))
        (pss_one (ps_ret (pe_op op_mod (pe_callTy call_int1 (by rfl) T.n_int (by decide +kernel) (pa_cons (pe_op op_add (pe_op op_fdiv (pe_ix ix_list (pv 0) pe_int (fun _ _ => rfl)) pe_int) (pe_op op_mul (pe_op op_mod (pe_callTy call_int1 (by rfl) T.n_int (by decide +kernel) (pa_cons (pe_ix ix_list (pv 0) pe_int (fun _ _ => rfl)) pa_nil)) pe_int) pe_int)) pa_nil)) (pv 1)))))))), ?_⟩
      rintro H2 i r sd n y ⟨e1, e2, e3, e4, e5, e6⟩
      have e2L : SqL K H2 p [.ref c, .int i, .int r, .int sd, .int n] := SqL.of e2
      refine ⟨.ref p, rfl, p, _, 2, .int r, rfl, rfl, e2L, rfl, .int m, rfl, r, m, rfl, rfl, _, rfl, ite2 (fun h => ?_) (fun h => ?_)⟩
      · have hrm : m ≤ r := of_decide_eq_true h
        refine ⟨.ref p, rfl, p, _, 2, .int r, rfl, rfl, e2L, rfl, .inl ⟨r, rfl, .int m, rfl, r, m, rfl, rfl, hm0, ?_⟩⟩
        refine ⟨.ref p, rfl, p, _, 2, .int r, rfl, rfl, e2L, rfl, .int m, rfl, r, m, rfl, rfl, ⟨hm0, small_log hm0 hm1⟩, .ref p, rfl, p, _, 2, 2, rfl, rfl, e2, rfl, ?_⟩
        refine ⟨.int (r % m), rfl, ?_⟩
        refine fin _ i (r / m) sd n (r % m) ⟨fun b hb => by rw [upd_ne hb]; exact e1 b hb, upd_same, e3, Int.ediv_nonneg e4 (by omega), e5, e6⟩ (Int.emod_nonneg _ (by omega)) (Int.emod_lt_of_pos _ hm0)
      · refine ⟨.ref p, rfl, p, _, 4, .int n, rfl, rfl, e2L, rfl, n, 1, rfl, rfl, .ref p, rfl, p, _, 4, 4, rfl, rfl, e2, rfl, ?_⟩
        have e3L : SqL K (upd H2 p (.lst ([V.ref c, .int i, .int r, .int sd, .int n].set 4 (.int (n + 1))))) p [.ref c, .int i, .int r, .int sd, .int (n + 1)] := SqL.of upd_same
        refine ⟨.ref p, rfl, p, _, 3, .int sd, rfl, rfl, e3L, rfl, .ref p, rfl, p, _, 4, .int (n + 1), rfl, rfl, e3L, rfl, n + 1, 9431, rfl, rfl, .inr ⟨by decide, by decide⟩, sd, _, rfl, rfl, .inl ⟨_, rfl, _, 2147483629, rfl, rfl, (by show (0 : Int) < 2147483629; decide), ?_⟩⟩
        obtain ⟨q1, q2, q3⟩ := mod_lt64 (x := sd + (n + 1) * 9431) (m := 2147483629) (by decide) (by decide)
        refine ⟨_, rfl, _, rfl, _, _, rfl, rfl, .inl q1, .inl ⟨_, rfl, _, 2147483399, rfl, rfl, (by show (0 : Int) < 2147483399; decide), _, rfl, .inl ⟨_, rfl, _, 39989, rfl, rfl, (by show (0 : Int) < 39989; decide), _, 9, rfl, rfl, _, _, rfl, rfl, .inl (mod_lt64 (by decide) (by decide)).1, ?_⟩⟩⟩
        refine ⟨_, rfl, _, rfl, 29989, _, rfl, rfl, .inl ⟨by decide, by decide⟩, _, _, rfl, rfl, _, 991, rfl, rfl, .inl ⟨_, rfl, _, 2147483549, rfl, rfl, (by show (0 : Int) < 2147483549; decide), .ref p, rfl, p, _, 3, 3, rfl, rfl, upd_same, rfl, ?_⟩⟩
        generalize hg2 : ((sd + (n + 1) * 9431) % 2147483629 * ((sd + (n + 1) * 9431) % 2147483629) % 2147483399 * ((sd + (n + 1) * 9431) % 2147483629 % 39989 + 9) + 29989 * ((sd + (n + 1) * 9431) % 2147483629) + 991) % 2147483549 = sd2
        have s2 : 0 ≤ sd2 := by rw [← hg2]; exact Int.emod_nonneg _ (by decide)
        have s3 : sd2 < 4294967296 := by rw [← hg2]; exact Int.lt_trans (Int.emod_lt_of_pos _ (by decide)) (by decide)
        dsimp only
        rw [hg2, upd_upd]
        have e4L : SqL K (upd H2 p (.lst (([V.ref c, .int i, .int r, .int sd, .int n].set 4 (.int (n + 1))).set 3 (.int sd2)))) p [.ref c, .int i, .int r, .int sd2, .int (n + 1)] := SqL.of upd_same
        refine ⟨.ref p, rfl, p, _, 3, .int sd2, rfl, rfl, e4L, rfl, sd2, 73, rfl, rfl, ⟨by decide, by decide⟩, .ref p, rfl, p, _, 3, .int sd2, rfl, rfl, e4L, rfl, .inl ⟨sd2, rfl, sd2, 8521, rfl, rfl, (by show (0 : Int) < 8521; decide), _, 57, rfl, rfl, .inr ⟨by decide, by decide⟩, _, _, rfl, rfl, .inl ⟨_, rfl, .int m, rfl, _, m, rfl, rfl, hm0, ?_⟩⟩⟩
        exact fin _ i r sd2 (n + 1) _ ⟨fun b hb => by rw [upd_ne hb]; exact e1 b hb, upd_same, e3, e4, s2, s3⟩ (Int.emod_nonneg _ (by omega)) (Int.emod_lt_of_pos _ hm0)
    refine ⟨_, pss_cons (ps_if (PW.pt (pw_and (pt_cmpR op_lt (pe_ix ix_list (pv 0) pe_int (fun _ _ => rfl)) (pv 1) (nomark _)) (pw_and1 (pt_cmpR op_lt (pe_ix ix_list (pv 0) pe_int (fun _ _ => rfl)) (pe_callB call_len_seq (by rfl) T.n_len PySem.boot_len (pa_cons (pe_ix ix_list (pv 0) pe_int (fun _ _ => rfl)) pa_nil)) (nomark _)))))
        (pss_cons (ps_set (i := 2) sc__law_draw.nd rfl (.inl rfl) (pe_ix ix_list (pe_ix ix_list (pv 0) pe_int (fun _ _ => rfl)) (pe_ix ix_list (pv 0) pe_int (fun _ _ => rfl)) (fun _ _ => rfl)))
        (pss_cons (ps_asg (pe_op op_add (pe_ix ix_list (pv 0) pe_int (fun _ _ => rfl)) pe_int) (pg_sub (pv 0) pe_int set_list))
        (pss_cons (ps_asg (pe_op op_mod (pe_callTy call_int1 (by rfl) T.n_int (by decide +kernel) (pa_cons (pe_op op_add (pe_op op_add (pe_op op_mul (pe_ix ix_list (pv 0) pe_int (fun _ _ => rfl)) pe_int) (pe_op op_mod (pe_callTy call_int1 (by rfl) T.n_int (by decide +kernel) (pa_cons (pv 2) pa_nil)) pe_int)) pe_int) pa_nil)) pe_int) (pg_sub (pv 0) pe_int set_list))
        (pss_one (ps_asg (pe_ifExp (pt_cmpR op_ge (pv 2) (pe_op op_pow pe_int pe_int) (nomark _)) (pv 2) pe_int) (pg_sub (pv 0) pe_int set_list)))))) pss_nil) pt2, ?_⟩
    have hpL : SqL K H p [.ref c, .int i0, .int r0, .int sd0, .int n0] := SqL.of hp
    have S0 : SrcAt p H H c i0 r0 sd0 n0 := ⟨fun _ _ => rfl, hp, hi0, hr0, hs0, hs1⟩
    refine ⟨.ref p, rfl, p, _, 2, .int r0, rfl, rfl, hpL, rfl, .int m, rfl, r0, m, rfl, rfl, _, rfl, ite2 (fun h => ?_) (fun h => ?_)⟩
    · refine ⟨.ref p, rfl, p, _, 1, .int i0, rfl, rfl, hpL, rfl, .ref p, rfl, p, _, 0, .ref c, rfl, rfl, hpL, rfl, c, ms.map V.int, rfl, .inl (cells fun _ _ => rfl), i0, _, rfl, rfl, _, rfl, ite2 (fun h2 => ?_) (fun h2 => ?_)⟩
      · have hlt : i0 < ((ms.map V.int).length : Int) := of_decide_eq_true h2
        rw [List.length_map] at hlt
        have hj : i0.toNat < ms.length := by omega
        have atc : atI (ms.map V.int) i0 = some (.int ms[i0.toNat]) := at_of (j := i0.toNat) (by omega) (by rw [List.getElem?_map, List.getElem?_eq_getElem hj]; rfl)
        generalize ms[i0.toNat] = z at atc
        refine ⟨.ref p, rfl, p, _, 0, .ref c, rfl, rfl, hpL, rfl, .ref p, rfl, p, _, 1, .int i0, rfl, rfl, hpL, rfl, c, _, i0, .int z, rfl, rfl, cells (fun _ _ => rfl), atc, ?_⟩
        refine ⟨.ref p, rfl, p, _, 1, .int i0, rfl, rfl, hpL, rfl, i0, 1, rfl, rfl, .ref p, rfl, p, _, 1, 1, rfl, rfl, hp, rfl, ?_⟩
        have e3L : SqL K (upd H p (.lst ([V.ref c, .int i0, .int r0, .int sd0, .int n0].set 1 (.int (i0 + 1))))) p [.ref c, .int (i0 + 1), .int r0, .int sd0, .int n0] := SqL.of upd_same
        refine ⟨.ref p, rfl, p, _, 3, .int sd0, rfl, rfl, e3L, rfl, sd0, 46757, rfl, rfl, .inr ⟨by decide, by decide⟩, .int z, rfl, .inl ⟨z, rfl, z, 2147483323, rfl, rfl, (by show (0 : Int) < 2147483323; decide), _, _, rfl, rfl, _, 31, rfl, rfl, .inl ⟨_, rfl, _, 2147483549, rfl, rfl, (by show (0 : Int) < 2147483549; decide), .ref p, rfl, p, _, 3, 3, rfl, rfl, upd_same, rfl, ?_⟩⟩⟩
        generalize hg2 : (sd0 * 46757 + z % 2147483323 + 31) % 2147483549 = sd2
        have s2 : 0 ≤ sd2 := by rw [← hg2]; exact Int.emod_nonneg _ (by decide)
        have s3 : sd2 < 4294967296 := by rw [← hg2]; exact Int.lt_trans (Int.emod_lt_of_pos _ (by decide)) (by decide)
        dsimp only
        rw [hg2, upd_upd]
        refine ⟨.int z, rfl, 10, 18, rfl, rfl, ⟨by decide, by decide, by decide⟩, z, _, rfl, rfl, _, rfl, ite2 (fun h3 => ?_) (fun h3 => ?_)⟩
        · have hz : (10 : Int) ^ (18 : Int).toNat ≤ z := of_decide_eq_true h3
          refine ⟨.int z, rfl, .ref p, rfl, p, _, 2, 2, rfl, rfl, upd_same, rfl, ?_⟩
          rw [upd_upd]
          exact key _ (i0 + 1) z sd2 n0 (some (.int z)) ⟨fun b hb => upd_ne hb, upd_same, by omega, Int.le_trans (by decide) hz, s2, s3⟩
        · refine ⟨.ref p, rfl, p, _, 2, 2, rfl, rfl, upd_same, rfl, ?_⟩
          rw [upd_upd]
          exact key _ (i0 + 1) 0 sd2 n0 (some (.int z)) ⟨fun b hb => upd_ne hb, upd_same, by omega, by decide, s2, s3⟩
      · exact key H i0 r0 sd0 n0 none S0
    · refine iteF ?_
      exact key H i0 r0 sd0 n0 none S0
  · obtain ⟨m, rfl, _⟩ := h; rfl
end
end K05

set_option Elab.async false
set_option linter.all false
set_option maxRecDepth 100000
set_option maxHeartbeats 2000000
namespace K05
open PySem PySem.Spec PyProof.Rows L2 DL
section
variable {P : Program} {w : World} {K : PySem.W.Frag} {mg : Str → Option Value} {base : Heap} {a : Nat → Addr} {d : Nat → FuncData}
theorem at_mem {α : Type} {xs : List α} {n : Int} (h0 : 0 ≤ n) (h1 : n < (xs.length : Int)) : ∃ x, atI xs n = some x ∧ x ∈ xs := by
  have hj : n.toNat < xs.length := by omega
  refine ⟨xs[n.toNat], ?_, List.getElem_mem hj⟩
  unfold atI ixN
  rw [if_pos h0, if_pos h1]
  exact List.getElem?_eq_getElem hj
theorem small_len {n : Nat} (h : n ≤ szl) : (n : Int) < 2 ^ 64 := by
  have : szl = 16777216 := rfl
  omega
/-! ### bindings -/
theorem B__law_draw_2 (T : Tx K mg a d) : Bd K (d 3) ["_law_src", "_law_many"] 2 [] [.pos 0, .pos 1] :=
  bd_of T.F__law_draw (fun us _ => us) (fun _ _ _ _ _ _ us ws h1 h2 => match us, ws, h1, h2 with | [_, _], [], _, _ => rfl) (fun vs qs us ws h1 h2 r1 r2 => match vs, us, h1, r1 with | _, [_, _], _, .cons r (.cons r' .nil) => .cons r (.cons r' .nil)) (fun s h v d e => by subst e; simp at h)
theorem B__law_of_2 (T : Tx K mg a d) : Bd K (d 4) ["_law_src", "_law_some"] 2 [] [.pos 0, .pos 1] :=
  bd_of T.F__law_of (fun us _ => us) (fun _ _ _ _ _ _ us ws h1 h2 => match us, ws, h1, h2 with | [_, _], [], _, _ => rfl) (fun vs qs us ws h1 h2 r1 r2 => match vs, us, h1, r1 with | _, [_, _], _, .cons r (.cons r' .nil) => .cons r (.cons r' .nil)) (fun s h v d e => by subst e; simp at h)
theorem B__law_same_2 (T : Tx K mg a d) : Bd K (d 5) ["_law_found", "_law_due"] 2 [] [.pos 0, .pos 1] :=
  bd_of T.F__law_same (fun us _ => us) (fun _ _ _ _ _ _ us ws h1 h2 => match us, ws, h1, h2 with | [_, _], [], _, _ => rfl) (fun vs qs us ws h1 h2 r1 r2 => match vs, us, h1, r1 with | _, [_, _], _, .cons r (.cons r' .nil) => .cons r (.cons r' .nil)) (fun s h v d e => by subst e; simp at h)
theorem B_is_name_1 (T : Tx K mg a d) : Bd K (d 0) ["value"] 1 [] [.pos 0] :=
  bd_of T.F_is_name (fun us _ => us) (fun _ _ _ _ _ _ us ws h1 h2 => match us, ws, h1, h2 with | [_], [], _, _ => rfl) (fun vs qs us ws h1 h2 r1 r2 => match vs, us, h1, r1 with | _, [_], _, .cons r .nil => .cons r .nil) (fun s h v d e => by subst e; simp at h)
theorem B_is_name_0_value (T : Tx K mg a d) : Bd K (d 0) ["value"] 0 ["value"] [.kw 0] :=
  bd_of T.F_is_name (fun _ ws => ws) (fun _ _ _ _ _ _ us ws h1 h2 => match us, ws, h1, h2 with | [], [_], _, _ => rfl) (fun vs qs us ws h1 h2 r1 r2 => match qs, ws, h2, r2 with | _, [_], _, .cons r .nil => .cons r .nil) (fun s h v d e => by subst e; simp at h)
theorem B_is_layer_1 (T : Tx K mg a d) : Bd K (d 1) ["value", "layers"] 1 [] [.pos 0, .dfl (.int 2) (.int 2)] :=
  bd_dfl T.F_is_layer (by simp) (fun us _ its => us ++ its) (fun _ _ _ _ _ _ _ us ws its h1 h2 h3 => match us, ws, its, h1, h2, h3 with | [_], [], [_], _, _, _ => ⟨_, rfl, rfl⟩) (fun vs qs us ws its h1 h2 r1 r2 r3 => match vs, us, its, h1, r1, r3 with | _, [_], [_], _, .cons r .nil, .cons r3 .nil => .cons r (.cons r3 .nil)) (fun s h v d e => by subst e; simp at h; obtain ⟨rfl, rfl⟩ := h; exact fun G => .int 2)
theorem B_is_layer_2 (T : Tx K mg a d) : Bd K (d 1) ["value", "layers"] 2 [] [.pos 0, .pos 1] :=
  bd_dfl T.F_is_layer (by simp) (fun us _ _ => us) (fun _ _ _ _ _ _ _ us ws its h1 h2 h3 => match us, ws, its, h1, h2, h3 with | [_, _], [], [_], _, _, _ => ⟨_, rfl, rfl⟩) (fun vs qs us ws its h1 h2 r1 r2 r3 => match vs, us, h1, r1 with | _, [_, _], _, .cons r (.cons r' .nil) => .cons r (.cons r' .nil)) (fun s h v d e => by subst e; simp at h)
theorem B_is_layer_0_layers_value (T : Tx K mg a d) : Bd K (d 1) ["value", "layers"] 0 ["layers", "value"] [.kw 1, .kw 0] :=
  bd_dfl T.F_is_layer (by simp) (fun _ ws _ => ws.reverse) (fun _ _ _ _ _ _ _ us ws its h1 h2 h3 => match us, ws, its, h1, h2, h3 with | [], [_, _], [_], _, _, _ => ⟨_, rfl, rfl⟩) (fun vs qs us ws its h1 h2 r1 r2 r3 => match qs, ws, h2, r2 with | _, [_, _], _, .cons r (.cons r' .nil) => .cons r' (.cons r .nil)) (fun s h v d e => by subst e; simp at h)
/-! ### _law_of -/
abbrev n__law_of : List Str := ["_law_src", "_law_some"]
theorem sc__law_of : FnScope n__law_of ["_law_src", "_law_some"] (defScope s__law_of) := ⟨rfl, rfl, rfl, by decide +kernel, rfl, by decide +kernel, by decide +kernel⟩
theorem ok__law_of (T : Tx K mg a d) : FnG P w K mg base 2 (a 4) (d 4) ["_law_src", "_law_some"] spOf := by
  have G__law_draw : FnG P w K mg base 1 (a 3) (d 3) ["_law_src", "_law_many"] spDraw := ok__law_draw T
  refine fnG_of T.F__law_of sc__law_of (fun args Q E h => ?_) (fun args Q E h => ?_) (fun cdv A outer s H E hr hg => (ds_one (ds_ret (de_ix ix_seq sem_ix (de_see (pv 1)) (de_call G__law_draw (hr.mono (by decide)) hg (takes_of rfl rfl rfl rfl) (B__law_draw_2 T) (by rfl) T.m__law_draw T.F__law_draw.kp (da_cons (de_var (pv 0)) (da_cons (de_callB call_len sem_len (by rfl) T.n_len PySem.boot_len (da_cons (de_see (pv 1)) da_nil)) da_nil))) (fun _ _ => rfl))))) (fun args Q E h => ?_)
  · obtain ⟨x, rfl, _⟩ := h; rfl
  · obtain ⟨x, rfl, hx, _⟩ := h
    intro i o z
    match i with
    | 0 => cases z
    | 1 => exact hx o (Option.some.inj z)
    | i + 2 => simp at z
  · obtain ⟨x, rfl, hx, h⟩ := h
    cases x with
    | src => exact h.elim
    | own o =>
      cases o with
      | lst ds =>
        obtain ⟨h1, h2, h3⟩ := h
        refine l_lenL rfl ?_
        refine ⟨rfl, rfl, _, rfl, by omega, small_len h2, fun n h0 h4 => ?_⟩
        obtain ⟨y, e1, e2⟩ := at_mem h0 h4
        exact l_ixL rfl e1 (h3 y e2)
    | bor o =>
      cases o with
      | lst ds =>
        obtain ⟨h1, h2, h3⟩ := h
        refine l_lenL rfl ?_
        refine ⟨rfl, rfl, _, rfl, by omega, small_len h2, fun n h0 h4 => ?_⟩
        obtain ⟨y, e1, e2⟩ := at_mem h0 h4
        exact l_ixL rfl e1 (h3 y e2)
    | see o => exact absurd rfl (hx o)
    | d y =>
      cases y with
      | str z =>
        obtain ⟨h1, h2, h3⟩ := h
        refine l_lenS h2 ?_
        refine ⟨rfl, rfl, _, rfl, by omega, small_len h2, fun n h0 h4 => ?_⟩
        obtain ⟨y, e1, e2⟩ := at_mem (xs := z.cps.toList) h0 (by simpa [Str.length] using h4)
        exact l_ixS h2 e1 (h3 y e2)
      | tup ds =>
        obtain ⟨h1, h2, h3⟩ := h
        refine l_lenT ?_
        refine ⟨rfl, rfl, _, rfl, by omega, small_len h2, fun n h0 h4 => ?_⟩
        obtain ⟨y, e1, e2⟩ := at_mem h0 h4
        exact l_ixT e1 (h3 y e2)
      | lst ds =>
        obtain ⟨h1, h2, h3⟩ := h
        refine l_lenL rfl ?_
        refine ⟨rfl, rfl, _, rfl, by omega, small_len h2, fun n h0 h4 => ?_⟩
        obtain ⟨y, e1, e2⟩ := at_mem h0 h4
        exact l_ixL rfl e1 (h3 y e2)
      | non => exact h.elim
      | bl _ => exact h.elim
      | int _ => exact h.elim
      | ins _ _ => exact h.elim
      | raw _ => exact h.elim
/-! ### _law_same -/
abbrev n__law_same : List Str := ["_law_found", "_law_due"]
theorem sc__law_same : FnScope n__law_same ["_law_found", "_law_due"] (defScope s__law_same) := ⟨rfl, rfl, rfl, by decide +kernel, rfl, by decide +kernel, by decide +kernel⟩
theorem ok__law_same (T : Tx K mg a d) : FnG P w K mg base 1 (a 5) (d 5) ["_law_found", "_law_due"] spSame := by
  refine fnG_of T.F__law_same sc__law_same (fun args Q E h => ?_) (fun args Q E h => ?_) (fun cdv A outer s H E hr hg => (ds_one (ds_ret (de_cmp (op_eqAll hr.units) sem_eq (de_callB (call_reprD hg (room65 hr)) sem_repr (by rfl) T.n_repr (by decide +kernel) (da_cons (de_see (pv 0)) da_nil)) (de_callB (call_reprD hg (room65 hr)) sem_repr (by rfl) T.n_repr (by decide +kernel) (da_cons (de_see (pv 1)) da_nil)) (nomark _))))) (fun args Q E h => ?_)
  · obtain ⟨_, _, _, _, rfl, _⟩ := h; rfl
  · obtain ⟨_, _, _, _, rfl, _⟩ := h
    intro i o z
    match i with
    | 0 => cases z
    | 1 => cases z
    | i + 2 => simp at z
  · obtain ⟨d1, d2, p, q, rfl, s1, s2, h⟩ := h
    show reprR [.d d1] (fun x => reprR [.d d2] (fun y => eqR false x y (retQ Q)))
    exact repr_ok s1 (repr_ok s2 (l_eqS h))
end
end K05

set_option Elab.async false
set_option linter.all false
set_option maxRecDepth 100000
set_option maxHeartbeats 2000000
namespace K05
open PySem PySem.Spec PyProof.Rows L2 DL
section
variable {P : Program} {w : World} {K : PySem.W.Frag} {mg : Str → Option Value} {base : Heap} {a : Nat → Addr} {d : Nat → FuncData}
/-! ### is_name -/
def low (c : Nat) : Bool := decide (c ∈ ("abcdefghijklmnopqrstuvwxyz" : Str).cps.toList)
def lowD : D → D
  | .str s => .bl (match s.cps.toList with | [c] => low c | _ => false)
  | _ => .bl false
def nameOk (z : Str) : Bool := decide (1 ≤ z.length) && decide (z.length ≤ 5) && z.cps.toList.all low
def spName : SpD := fun args Q _ => ∃ x : D, args = [.d x] ∧ match x with
  | .str z => z.length ≤ szl ∧ Q (.d (.bl (nameOk z)))
  | .non => Q (.d (.bl false))
  | .bl _ => Q (.d (.bl false))
  | .int _ => Q (.d (.bl false))
  | .lst _ => Q (.d (.bl false))
  | .tup _ => Q (.d (.bl false))
  | _ => False
abbrev n_is_name : List Str := ["value", "sign"]
theorem sc_is_name : FnScope n_is_name ["value"] (defScope s_is_name) := ⟨rfl, rfl, rfl, by decide +kernel, rfl, by decide +kernel, by decide +kernel⟩
theorem ok_is_name (T : Tx K mg a d) : FnG P w K mg base 1 (a 0) (d 0) ["value"] spName := by
  refine fnG_of T.F_is_name sc_is_name (fun args Q E h => ?_) (fun args Q E h => ?_) (fun cdv A outer s H E hr hg => (ds_cons (ds_if (DW.dt (dw_or (dt_not (dt_val (de_callB call_isi sem_isi (by rfl) T.n_isinstance (by decide +kernel) (da_cons (de_see (pv 0)) (da_cons (de_ty (T := "str") (by rfl) T.n_str (by decide +kernel)) da_nil))))) (dw_or1 (dt_not (dt_chain op_le (sem_intR0 fun _ _ _ => .bl _) op_le (sem_intR0 fun _ _ _ => .bl _) de_int (de_callB call_len sem_len (by rfl) T.n_len PySem.boot_len (da_cons (de_see (pv 0)) da_nil)) de_int))))) (ds_one (ds_ret de_bl)) ds_nil)
      (ds_one (ds_ret (de_callB (cr_all rfl) sem_all (by rfl) T.n_all (by decide +kernel) (da_cons (de_lc (own := [("sign", 1)]) rfl sc_is_name.nd (di_any (de_var (pv 0))) (blkOk_by (own := [("sign", 1)]) (N := n_is_name) (sc := (defScope s_is_name)) (by decide +kernel)) (fun _ _ _ _ _ => (dg_name (i := 1) sc_is_name.nd rfl (Or.inl rfl))) (fun _ _ _ _ _ => dts_nil) (fun _ _ _ _ _ => (de_cmp op_inAll sem_in (de_see (pv 1)) (de_globD (by rfl) T.c_LETTERS) (by rfl)))) da_nil)))))) (fun args Q E h => ?_)
  · obtain ⟨_, rfl, _⟩ := h; rfl
  · obtain ⟨_, rfl, _⟩ := h
    intro i o z
    match i with
    | 0 => cases z
    | i + 1 => simp at z
  · obtain ⟨x, rfl, h⟩ := h
    cases x with
    | str z =>
      obtain ⟨hz, h⟩ := h
      refine isi_ok (x := .d (.str z)) (T := "str") rfl rfl kit_str_str ?_
      refine l_truB (brF ?_)
      refine l_lenS hz ?_
      refine l_int0 ?_
      refine br (fun h1 => ?_) (fun h1 => ?_)
      · refine l_int0 ?_
        have h1' : 1 ≤ z.length := by have := of_decide_eq_true h1; omega
        cases h2 : decide ((z.length : Int) ≤ 5) with
        | false =>
          have h2' := of_decide_eq_false h2
          refine brT ?_
          have : nameOk z = false := by
            unfold nameOk
            rw [decide_eq_false (show ¬ z.length ≤ 5 by omega)]; simp
          rw [this] at h; exact h
        | true =>
          have h2' := of_decide_eq_true h2
          refine brF ?_
          refine l_iterS ?_
          refine lcL_map lowD _ (by rw [signs_len]; exact hz) (fun d hd M A m => ?_) ?_
          · obtain ⟨c, hc, rfl⟩ := mem_signs hd
            refine brT ?_
            refine l_inC rfl ?_
            exact m
          · refine l_all (bs := (z.cps.toList.map low)) rfl ?_ ?_
            · rw [← bools_map low]; unfold DL.signs; rw [List.map_map]; rfl
            · rw [List.all_map]
              have : nameOk z = z.cps.toList.all low := by unfold nameOk; rw [decide_eq_true h1', decide_eq_true (show z.length ≤ 5 by omega)]; rfl
              rw [this] at h; exact h
      · refine brT ?_
        have h1' := of_decide_eq_false h1
        have : nameOk z = false := by
          unfold nameOk
          rw [decide_eq_false (show ¬ 1 ≤ z.length by omega)]; rfl
        rw [this] at h; exact h
    | non => exact isi_ok (x := .d .non) (T := "str") rfl rfl kit_non_str (l_truB (brT (brT h)))
    | bl b => exact isi_ok (x := .d (.bl b)) (T := "str") rfl rfl kit_bool_str (l_truB (brT (brT h)))
    | int i => exact isi_ok (x := .d (.int i)) (T := "str") rfl rfl kit_int_str (l_truB (brT (brT h)))
    | lst ds => exact isi_ok (x := .d (.lst ds)) (T := "str") rfl rfl kit_list_str (l_truB (brT (brT h)))
    | tup ds => exact isi_ok (x := .d (.tup ds)) (T := "str") rfl rfl kit_tuple_str (l_truB (brT (brT h)))
    | ins _ _ => exact h.elim
    | raw _ => exact h.elim
/-! ### is_layer -/
def layerOk (z : Str) (n : Int) : Bool := inF (.str z) (cut [D.str "foot", .str "cart"] none (some n))
def spLayer : SpD := fun args Q _ => ∃ (x : D) (n : Int), args = [.d x, .d (.int n)] ∧ match x with
  | .str z => (n = 1 ∨ n = 2) ∧ Q (.d (.bl (layerOk z n)))
  | .non => Q (.d (.bl false))
  | .bl _ => Q (.d (.bl false))
  | .int _ => Q (.d (.bl false))
  | .lst _ => Q (.d (.bl false))
  | .tup _ => Q (.d (.bl false))
  | _ => False
abbrev n_is_layer : List Str := ["value", "layers"]
theorem sc_is_layer : FnScope n_is_layer ["value", "layers"] (defScope s_is_layer) := ⟨rfl, rfl, rfl, by decide +kernel, rfl, by decide +kernel, by decide +kernel⟩
theorem ok_is_layer (T : Tx K mg a d) : FnG P w K mg base 1 (a 1) (d 1) ["value", "layers"] spLayer := by
  refine fnG_of T.F_is_layer sc_is_layer (fun args Q E h => ?_) (fun args Q E h => ?_) (fun cdv A outer s H E hr hg => (ds_one (ds_ret (de_and (de_callB call_isi sem_isi (by rfl) T.n_isinstance (by decide +kernel) (da_cons (de_see (pv 0)) (da_cons (de_ty (T := "str") (by rfl) T.n_str (by decide +kernel)) da_nil))) (de_one (de_cmp op_inAll sem_in (de_see (pv 0)) (de_sl (de_globD (by rfl) T.c_LAYERS) do_none (do_some (de_var (pv 1)))) (by rfl))))))) (fun args Q E h => ?_)
  · obtain ⟨_, _, rfl, _⟩ := h; rfl
  · obtain ⟨_, _, rfl, _⟩ := h
    intro i o z
    match i with
    | 0 => cases z
    | 1 => cases z
    | i + 2 => simp at z
  · obtain ⟨x, n, rfl, h⟩ := h
    cases x with
    | str z =>
      obtain ⟨hn, h⟩ := h
      refine isi_ok (x := .d (.str z)) (T := "str") rfl rfl kit_str_str ?_
      refine brT ?_
      refine l_slT ?_
      refine l_inT rfl ?_ ?_
      · rcases hn with rfl | rfl <;> rfl
      · exact h
    | non => exact isi_ok (x := .d .non) (T := "str") rfl rfl kit_non_str (brF h)
    | bl b => exact isi_ok (x := .d (.bl b)) (T := "str") rfl rfl kit_bool_str (brF h)
    | int i => exact isi_ok (x := .d (.int i)) (T := "str") rfl rfl kit_int_str (brF h)
    | lst ds => exact isi_ok (x := .d (.lst ds)) (T := "str") rfl rfl kit_list_str (brF h)
    | tup ds => exact isi_ok (x := .d (.tup ds)) (T := "str") rfl rfl kit_tuple_str (brF h)
    | ins _ _ => exact h.elim
    | raw _ => exact h.elim
end
end K05

set_option Elab.async false
set_option linter.all false
set_option maxRecDepth 100000
set_option maxHeartbeats 2000000
namespace K05
open PySem PySem.Spec PyProof.Rows L2 DL
section
variable {P : Program} {w : World} {K : PySem.W.Frag} {mg : Str → Option Value} {base : Heap} {a : Nat → Addr} {d : Nat → FuncData}
/-! ### law -/
abbrev signs57 : List Nat := ("abcdefghijklmnopqrstuvwxyzabcdefghijklmnopqrstuvwxyzA1 ?+" : Str).cps.toList
theorem sg57 : ∀ c ∈ signs57, c < 0x110000 := by decide +kernel
def notLow : D → Bool
  | .str s => !(match s.cps.toList with | [c] => low c | _ => false)
  | _ => true
theorem shows3 (b1 b2 b3 : Bool) : Shows (.lst [.bl b1, .bl b2, .bl b3]) (.list [.bool b1, .bool b2, .bool b3]) :=
  (Shw.lst (m := 3) (.cons (.bl b1) (.cons (.bl b2) (.cons (.bl b3) .nil))) (Nat.le_refl _)).shows (.inl ⟨_, rfl⟩) (by decide) (by decide)
theorem shows6 : Shows (.lst [.bl false, .bl false, .bl true, .bl false, .bl true, .bl true]) (.list [.bool false, .bool false, .bool true, .bool false, .bool true, .bool true]) :=
  (Shw.lst (m := 6) (.cons (.bl _) (.cons (.bl _) (.cons (.bl _) (.cons (.bl _) (.cons (.bl _) (.cons (.bl _) .nil)))))) (Nat.le_refl _)).shows (.inl ⟨_, rfl⟩) (by decide) (by decide)
theorem showsC : Shows (.lst [.tup [.str "foot", .str "cart"], .tup [.str "?1", .str "?2"]]) (.list [.tuple [.str "foot", .str "cart"], .tuple [.str "?1", .str "?2"]]) :=
  (Shw.lst (m := 2) (.cons (Shw.tup (m := 2) (.cons (Shw.str (m := 4) (by decide) (by decide)) (.cons (Shw.str (by decide) (by decide)) .nil)) (Nat.le_refl _)) (.cons (Shw.tup (.cons (Shw.str (by decide) (by decide)) (.cons (Shw.str (by decide) (by decide)) .nil)) (Nat.le_refl _)) .nil)) (Nat.le_refl _)).shows (.inl ⟨_, rfl⟩) (by decide) (by decide)
abbrev oddL : List D := [.non, .bl true, .int 3, .str "", .str "abcdef", .tup [.str "a"], .lst [.str "a"], .str "Foot", .str "?1"]
theorem odd_name {x : D} {Q : DV → Prop} {E : XE'} (h : x ∈ oddL) (q : Q (.d (.bl false))) : spName [.d x] Q E := by
  refine ⟨x, rfl, ?_⟩
  simp only [oddL, List.mem_cons, List.not_mem_nil, or_false] at h
  rcases h with rfl | rfl | rfl | rfl | rfl | rfl | rfl | rfl | rfl <;> first | exact q | exact ⟨by decide, q⟩
theorem odd_layer {x : D} {Q : DV → Prop} {E : XE'} (h : x ∈ oddL) (q : Q (.d (.bl false))) : spLayer [.d x, .d (.int 2)] Q E := by
  refine ⟨x, 2, rfl, ?_⟩
  simp only [oddL, List.mem_cons, List.not_mem_nil, or_false] at h
  rcases h with rfl | rfl | rfl | rfl | rfl | rfl | rfl | rfl | rfl <;> first | exact q | exact ⟨.inr rfl, q⟩
abbrev n_law : List Str := ["_law_script", "_law_src", "_law_turn", "_law_word", "_law_good", "_law_odd", "_law_got", "_law_k", "_law_sign"]
theorem sc_law : FnScope n_law ["_law_script"] (defScope s_law) := ⟨rfl, rfl, rfl, by decide +kernel, rfl, by decide +kernel, by decide +kernel⟩
theorem bi__law_source (T : Tx K mg a d) : Binds K (d 2) ["_law_script"] [] := binds_of T.F__law_source fun _ _ _ _ _ _ us hl => match us, hl with | [_], _ => rfl
theorem ok_law (T : Tx K mg a d) : FnR P w K mg base 4 (a 6) (d 6) ["_law_script"] (spLaw K) := by
  have G__law_draw : FnG P w K mg base 1 (a 3) (d 3) ["_law_src", "_law_many"] spDraw := ok__law_draw T
  have G__law_of : FnG P w K mg base 2 (a 4) (d 4) ["_law_src", "_law_some"] spOf := ok__law_of T
  have G__law_same : FnG P w K mg base 1 (a 5) (d 5) ["_law_found", "_law_due"] spSame := ok__law_same T
  have G_is_name : FnG P w K mg base 1 (a 0) (d 0) ["value"] spName := ok_is_name T
  have G_is_layer : FnG P w K mg base 1 (a 1) (d 1) ["value", "layers"] spLayer := ok_is_layer T
  refine fnR_of T.F_law sc_law (fun vs H Q E h => ?_) (fun cdv A outer s H vs Q E hr hg h => ?_)
  · obtain ⟨c, ns, rfl, _⟩ := h; rfl
  · obtain ⟨c, ns, rfl, hS, hlen, q⟩ := h
    refine ⟨_, pss_cons (ps_set (i := 1) sc_law.nd rfl (Or.inr rfl) (pe_callR (ok__law_source T) (hr.mono (by decide)) hg (by rfl) T.m__law_source T.F__law_source.kp (bi__law_source T) (pa_cons (pv 0) pa_nil)))
      (up_ss (fun cls d _ H => E cls d H) (ds_cons (ds_for (passes_of rfl) rfl (di_rng1 (by rfl) T.n_range (da_cons de_int da_nil)) (dg_name (i := 2) sc_law.nd rfl (Or.inl rfl)) (ds_cons (ds_set (i := 3) sc_law.nd rfl (Or.inl rfl) (de_join de_str (de_lc (own := [("_law_k", 7)]) rfl sc_law.nd (di_rng1 (by rfl) T.n_range (da_cons (de_call G__law_draw (hr.mono (by decide)) hg (takes_of rfl rfl rfl rfl) (B__law_draw_2 T) (by rfl) T.m__law_draw T.F__law_draw.kp (da_cons (de_var (pv 1)) (da_cons de_int da_nil))) da_nil)) (blkOk_by (own := [("_law_k", 7)]) (N := n_law) (sc := (defScope s_law)) (by decide +kernel)) (fun _ _ _ _ _ => (dg_name (i := 7) sc_law.nd rfl (Or.inl rfl))) (fun _ _ _ _ _ => dts_nil) (fun _ _ _ _ _ => (de_call G__law_of (hr.mono (by decide)) hg takes0 (B__law_of_2 T) (by rfl) T.m__law_of T.F__law_of.kp (da_cons (de_var (pv 1)) (da_cons de_str da_nil)))))))
      (ds_cons (ds_set (i := 4) sc_law.nd rfl (Or.inl rfl) (de_and (de_chain op_le (sem_intR0 fun _ _ _ => .bl _) op_le (sem_intR0 fun _ _ _ => .bl _) de_int (de_callB call_len sem_len (by rfl) T.n_len PySem.boot_len (da_cons (de_see (pv 3)) da_nil)) de_int) (de_one (de_cmp (op_eqAll hr.units) sem_eq (de_lc (own := [("_law_sign", 8)]) rfl sc_law.nd (di_any (de_var (pv 3))) (blkOk_by (own := [("_law_sign", 8)]) (N := n_law) (sc := (defScope s_law)) (by decide +kernel)) (fun _ _ _ _ _ => (dg_name (i := 8) sc_law.nd rfl (Or.inl rfl))) (fun _ _ _ _ _ => (dts_one (dt_cmp op_notInAll sem_notIn (de_see (pv 8)) de_str (by rfl)))) (fun _ _ _ _ _ => (de_var (pv 8)))) (de_lst da_nil) (nomark _)))))
      (ds_one (ds_if (dt_not (dt_val (de_call G__law_same (hr.mono (by decide)) hg (takes_of rfl rfl rfl rfl) (B__law_same_2 T) (by rfl) T.m__law_same T.F__law_same.kp (da_cons (de_lst (da_cons (de_call G_is_name (hr.mono (by decide)) hg (takes_of rfl rfl rfl rfl) (B_is_name_1 T) (by rfl) T.m_is_name T.F_is_name.kp (da_cons (de_var (pv 3)) da_nil)) (da_cons (de_callK0 G_is_name (hr.mono (by decide)) hg (takes_of rfl rfl rfl rfl) (B_is_name_0_value T) (by rfl) T.m_is_name T.F_is_name.kp (dk_cons (de_add (de_see (pv 3)) de_str) dk_nil)) (da_cons (de_call G_is_layer (hr.mono (by decide)) hg (takes_of rfl rfl rfl rfl) (B_is_layer_1 T) (by rfl) T.m_is_layer T.F_is_layer.kp (da_cons (de_var (pv 3)) da_nil)) da_nil)))) (da_cons (de_lst (da_cons (de_var (pv 4)) (da_cons de_bl (da_cons (de_cmp op_inAll sem_in (de_see (pv 3)) (de_tup (da_cons de_str (da_cons de_str da_nil))) (by rfl)) da_nil)))) da_nil))))) (ds_one (ds_ret de_bl)) ds_nil)))))
      (ds_cons (ds_set (i := 5) sc_law.nd rfl (Or.inl rfl) (de_call G__law_of (hr.mono (by decide)) hg (takes_of rfl rfl rfl rfl) (B__law_of_2 T) (by rfl) T.m__law_of T.F__law_of.kp (da_cons (de_var (pv 1)) (da_cons (de_lst (da_cons de_non (da_cons de_bl (da_cons de_int (da_cons de_str (da_cons de_str (da_cons (de_tup (da_cons de_str da_nil)) (da_cons (de_lst (da_cons de_str da_nil)) (da_cons de_str (da_cons de_str da_nil)))))))))) da_nil))))
      (ds_cons (ds_set (i := 6) sc_law.nd rfl (Or.inl rfl) (de_lst (da_cons (de_call G_is_name (hr.mono (by decide)) hg (takes_of rfl rfl rfl rfl) (B_is_name_1 T) (by rfl) T.m_is_name T.F_is_name.kp (da_cons (de_var (pv 5)) da_nil)) (da_cons (de_call G_is_layer (hr.mono (by decide)) hg (takes_of rfl rfl rfl rfl) (B_is_layer_1 T) (by rfl) T.m_is_layer T.F_is_layer.kp (da_cons (de_var (pv 5)) da_nil)) (da_cons (de_call G_is_layer (hr.mono (by decide)) hg (takes_of rfl rfl rfl rfl) (B_is_layer_1 T) (by rfl) T.m_is_layer T.F_is_layer.kp (da_cons de_str da_nil)) (da_cons (de_callK0 G_is_layer (hr.mono (by decide)) hg (takes_of rfl rfl rfl rfl) (B_is_layer_0_layers_value T) (by rfl) T.m_is_layer T.F_is_layer.kp (dk_cons de_int (dk_cons de_str dk_nil))) (da_cons (de_call G_is_layer (hr.mono (by decide)) hg (takes_of rfl rfl rfl rfl) (B_is_layer_2 T) (by rfl) T.m_is_layer T.F_is_layer.kp (da_cons de_str (da_cons de_int da_nil))) (da_cons (de_call G_is_name (hr.mono (by decide)) hg (takes_of rfl rfl rfl rfl) (B_is_name_1 T) (by rfl) T.m_is_name T.F_is_name.kp (da_cons de_str da_nil)) da_nil))))))))
      (ds_one (ds_ret (de_and (de_call G__law_same (hr.mono (by decide)) hg (takes_of rfl rfl rfl rfl) (B__law_same_2 T) (by rfl) T.m__law_same T.F__law_same.kp (da_cons (de_var (pv 6)) (da_cons (de_lst (da_cons de_bl (da_cons de_bl (da_cons de_bl (da_cons de_bl (da_cons de_bl (da_cons de_bl da_nil))))))) da_nil))) (de_one (de_call G__law_same (hr.mono (by decide)) hg (takes_of rfl rfl rfl rfl) (B__law_same_2 T) (by rfl) T.m__law_same T.F__law_same.kp (da_cons (de_lst (da_cons (de_globD (by rfl) T.c_LAYERS) (da_cons (de_globD (by rfl) T.c_STRANGERS) da_nil))) (da_cons (de_lst (da_cons (de_tup (da_cons de_str (da_cons de_str da_nil))) (da_cons (de_tup (da_cons de_str (da_cons de_str da_nil))) da_nil))) da_nil))))))))))), ?_⟩
    refine ⟨.ref c, rfl, c, ns, rfl, hS, hlen, fun H' p c' ms sd ex cp hp hc hm h0 h1 => ?_⟩
    refine law_up 9 1 rfl rfl q cp hp hc hm h0 h1 ?_
    refine seq_cut (fun s => ∃ a2 a3 a4, s = [none, some .src, a2, a3, a4, none, none, none, none]) (fun N' hN' => ?_) (fun s hs => ?_)
    · refine l_rng1 (by decide) (by decide) ?_
      refine forL_inv (fun s => ∃ a2 a3 a4, s = [none, some .src, a2, a3, a4, none, none, none, none]) _ _ ⟨_, _, _, rfl⟩ (fun N d s hN hd hs => ?_) hN'
      obtain ⟨a2, a3, a4, rfl⟩ := hs
      refine set_cutP (fun x => ∃ cs : List Nat, x = .str (wd cs) ∧ cs.length ≤ 8 ∧ ∀ c ∈ cs, c ∈ signs57) (fun Q hQ => ?_) (fun x hx => ?_)
      · refine ⟨⟨_, rfl⟩, rfl, rfl, _, rfl, by decide, by decide, fun n h0 h1 => ?_⟩
        refine l_rng1 (by omega) (by omega) ?_
        refine lcL_rel (fun x => ∃ c ∈ signs57, x = sgD c) _ ?_ (fun d hd M A m => ?_) (fun xs hl hR => ?_)
        · rw [intsFrom_len]; have : szl = 16777216 := rfl; omega
        · refine brT ?_
          exact ⟨rfl, rfl, _, rfl, (fun o z => by cases z), by decide, by decide, fun c hc => m _ ⟨c, hc, rfl⟩⟩
        rw [intsFrom_len] at hl
        obtain ⟨cs, rfl, hcs⟩ := sg_ex hR
        rw [List.length_map] at hl
        exact l_joinW rfl (by have : szl = 16777216 := rfl; omega) (hQ _ ⟨cs, rfl, by omega, hcs⟩)
      obtain ⟨cs, rfl, hl, hcs⟩ := hx
      have hz : (wd cs).length ≤ szl := by rw [wd_len]; have : szl = 16777216 := rfl; omega
      refine set_cut (.bl (nameOk (wd cs))) (fun Q hQ => ?_) ?_
      · refine l_lenS hz ?_
        refine l_int0 ?_
        refine br (fun h1 => ?_) (fun h1 => ?_)
        · have h1' := of_decide_eq_true h1
          refine l_int0 ?_
          refine br (fun h2 => ?_) (fun h2 => ?_)
          · have h2' := of_decide_eq_true h2
            refine l_iterS ?_
            refine lcL_fm notLow id _ _ [] ?_ (fun d hd M A m1 m2 => ?_) ?_
            · show 0 + (DL.signs (wd cs)).length ≤ szl
              rw [signs_len]; omega
            · obtain ⟨c, hc, rfl⟩ := mem_signs hd
              refine l_inC rfl ?_
              exact br m1 m2
            refine l_lst rfl rfl ?_
            have e1 : [] ++ List.map id ((DL.signs (wd cs)).filter notLow) = (cs.filter fun c => !low c).map sgD := by
              rw [List.nil_append, List.map_id]
              exact List.filter_map
            rw [e1]
            have hw := Shw.lst (m := 8) (ShwAll.map (f := sgD) (g := fun c => PyData.str (sgS c)) (xs := cs.filter fun c => !low c) fun c hc => Shw.str (m := 1) (fun e he => ?_) (Nat.le_refl _)) (by rw [List.length_map]; exact Nat.le_trans (List.length_filter_le ..) hl)
            · refine l_eqD (p' := .list []) rfl rfl hw.py rfl (hw.shows (.inl ⟨_, rfl⟩) (by decide) (by decide)).sh (by decide +kernel) (.inl ⟨_, rfl⟩) ?_
              rw [eqv_nil]
              have e2 : nameOk (wd cs) = (List.map (fun c => PyData.str (sgS c)) (cs.filter fun c => !low c)).isEmpty := by
                unfold nameOk
                rw [decide_eq_true (show 1 ≤ (wd cs).length by omega), decide_eq_true (show (wd cs).length ≤ 5 by omega)]
                rw [List.isEmpty_map]
                show cs.all low = _
                rw [Bool.eq_iff_iff, List.all_eq_true, List.isEmpty_iff, List.filter_eq_nil_iff]
                simp
              rw [e2] at hQ
              exact hQ
            · have h3 : e = c := List.mem_singleton.mp he
              rw [h3]
              exact sg57 c (hcs c (List.mem_filter.mp hc).1)
          · have h2' := of_decide_eq_false h2
            rw [show nameOk (wd cs) = false by unfold nameOk; rw [decide_eq_false (show ¬ (wd cs).length ≤ 5 by omega)]; simp] at hQ
            exact hQ
        · have h1' := of_decide_eq_false h1
          rw [show nameOk (wd cs) = false by unfold nameOk; rw [decide_eq_false (show ¬ 1 ≤ (wd cs).length by omega)]; rfl] at hQ
          exact brF hQ
      have nl : nameOk (wd cs ++ "\n") = false := by
        unfold nameOk
        have : (wd cs ++ "\n" : Str).cps.toList.all low = false := by
          have e : (wd cs ++ "\n" : Str).cps.toList = cs ++ [10] := TL.tl_append _ _
          rw [e, List.all_append]
          have : [10].all low = false := by decide +kernel
          rw [this, Bool.and_false]
        rw [this, Bool.and_false]
      refine ⟨rfl, rfl, _, rfl, hz, ?_⟩
      refine l_addS ?_ ?_
      · have : ((("\n" : String) : Str)).length = 1 := rfl
        rw [wd_len, this]; have : szl = 16777216 := rfl; omega
      refine ⟨rfl, rfl, _, rfl, ?_, ?_⟩
      · rw [strLen_append, wd_len]
        have : ((("\n" : String) : Str)).length = 1 := rfl
        rw [this]; have : szl = 16777216 := rfl; omega
      rw [nl]
      refine ⟨rfl, rfl, _, _, rfl, .inr rfl, ?_⟩
      refine l_lst rfl rfl ?_
      refine l_tup rfl rfl ?_
      refine l_inT rfl rfl ?_
      refine l_lst rfl rfl ?_
      refine ⟨rfl, rfl, ?_⟩
      refine same_eq (shows3 _ _ _) rfl ?_
      refine l_truB ?_
      exact brF (hN _ ⟨_, _, _, rfl⟩)
    · obtain ⟨a2, a3, a4, rfl⟩ := hs
      refine set_cutP (fun x => x ∈ oddL) (fun Q hQ => ?_) (fun x hx => ?_)
      · refine l_tup rfl rfl ?_
        refine l_lst rfl rfl ?_
        refine l_lst rfl rfl ?_
        exact ⟨rfl, rfl, _, rfl, (fun o z => by cases z), by decide, by decide, fun d hd => hQ d hd⟩
      refine set_cutL [.bl false, .bl false, .bl true, .bl false, .bl true, .bl true] (fun Q hQ => ?_) ?_
      · refine ⟨rfl, rfl, odd_name hx ?_⟩
        refine ⟨rfl, rfl, odd_layer hx ?_⟩
        refine ⟨rfl, rfl, _, _, rfl, .inr rfl, ?_⟩
        refine ⟨rfl, rfl, _, _, rfl, .inl rfl, ?_⟩
        refine ⟨rfl, rfl, _, _, rfl, .inl rfl, ?_⟩
        refine ⟨rfl, rfl, _, rfl, by decide, ?_⟩
        exact l_lst rfl rfl hQ
      refine l_lst rfl rfl ?_
      refine ⟨rfl, rfl, ?_⟩
      refine same_eq shows6 rfl ?_
      refine brT ?_
      refine l_lst rfl rfl ?_
      refine l_tup rfl rfl ?_
      refine l_tup rfl rfl ?_
      refine l_lst rfl rfl ?_
      refine ⟨rfl, rfl, ?_⟩
      exact same_eq showsC rfl rfl
end
end K05

set_option Elab.async false
set_option linter.all false
set_option maxRecDepth 100000
set_option maxHeartbeats 2000000
namespace K05
open PySem PySem.Spec PyProof.Rows L2 DL
section
variable {P : Program} {w : World} {K : PySem.W.Frag} {mg : Str → Option Value} {base : Heap} {a : Nat → Addr} {d : Nat → FuncData}
/-! ### the head -/
def df0 : He.DefD := ⟨("is_name", none), "is_name", "is_name", defArgs s_is_name, defBody s_is_name, defScope s_is_name, [], []⟩
def df1 : He.DefD := ⟨("is_layer", none), "is_layer", "is_layer", defArgs s_is_layer, defBody s_is_layer, defScope s_is_layer, [.int 2], []⟩
def df2 : He.DefD := ⟨("_law_source", none), "_law_source", "_law_source", defArgs s__law_source, defBody s__law_source, defScope s__law_source, [], []⟩
def df3 : He.DefD := ⟨("_law_draw", none), "_law_draw", "_law_draw", defArgs s__law_draw, defBody s__law_draw, defScope s__law_draw, [], []⟩
def df4 : He.DefD := ⟨("_law_of", none), "_law_of", "_law_of", defArgs s__law_of, defBody s__law_of, defScope s__law_of, [], []⟩
def df5 : He.DefD := ⟨("_law_same", none), "_law_same", "_law_same", defArgs s__law_same, defBody s__law_same, defScope s__law_same, [], []⟩
def df6 : He.DefD := ⟨("law", none), "law", "law", defArgs s_law, defBody s_law, defScope s_law, [], []⟩
def fnL : List He.DefD := [df0, df1, df2, df3, df4, df5, df6]
def faL : List He.Fa := [.glo "is_name", .glo "is_layer", .glo "_law_source", .glo "_law_draw", .glo "_law_of", .glo "_law_same", .glo "law", .free "isinstance", .free "str", .free "len", .free "all", .free "int", .free "list", .free "repr", .free "range"]
def csL : List (Str × D) := [("LETTERS", .str "abcdefghijklmnopqrstuvwxyz"), ("LAYERS", .tup [.str "foot", .str "cart"]), ("STRANGERS", .tup [.str "?1", .str "?2"])]
abbrev RR : PySem.W.OpenRow := PySem.W.OpenLaw.row PySem.Challenge.rw_missingmiles_k05_names_and_layers
abbrev hk : PySem.W.Hook := hookX 4 csL faL fnL
def ob (s : PySem.W.SharedT) : AlX := obsXG 4 csL faL fnL (HandSHeadRun.getT s)
theorem ob_eq (s : PySem.W.SharedT) : ob s = hk.obs s.abs := obsXG_eq (HandSHeadRun.getT_eq s)
def names : List PySem.Str := (["LETTERS", "LAYERS", "STRANGERS", "is_name", "is_layer", "_law_source", "_law_draw", "_law_of", "_law_same"] : List PySem.Str)
abbrev qv : Program := PySem.W.view RR.prog [11]
theorem run (w : World) : HandSHeadRun.RunEq RR qv hk ob 600 names w := by
  intro os
  kernel_rfl
theorem facts {P : Program} {w : World} {K : PySem.W.Frag} {h : Heap} {mg : Str → Option Value} {f : Addr} (X : K.In h) (G : h.Ns mainGlobals mg) (hfa : mg ("law" : Str) = some (.ref f)) (c : SaysX csL faL fnL K) :
    ∃ fd : FuncData, (∀ (s : Shared) (v : Value), BindsTo s fd ⟨[v], []⟩ [("_law_script", v)]) ∧ ∀ base : Heap, K.In base → base.Ns mainGlobals mg → FnR P w K mg base 4 f fd ["_law_script"] (spLaw K) := by
  obtain ⟨fd0, F0⟩ := c.s.def_ 0 (d := df0) rfl
  obtain ⟨fd1, F1⟩ := c.s.def_ 1 (d := df1) rfl
  obtain ⟨fd2, F2⟩ := c.s.def_ 2 (d := df2) rfl
  obtain ⟨fd3, F3⟩ := c.s.def_ 3 (d := df3) rfl
  obtain ⟨fd4, F4⟩ := c.s.def_ 4 (d := df4) rfl
  obtain ⟨fd5, F5⟩ := c.s.def_ 5 (d := df5) rfl
  obtain ⟨fd6, F6⟩ := c.s.def_ 6 (d := df6) rfl
  have e := hfa.symm.trans (He.glo_ok X G (c.s.fact 6 (f := .glo "law") rfl))
  cases e
  have T : Tx K mg (fun i => match i with | 0 => He.ga K "is_name" | 1 => He.ga K "is_layer" | 2 => He.ga K "_law_source" | 3 => He.ga K "_law_draw" | 4 => He.ga K "_law_of" | 5 => He.ga K "_law_same" | 6 => He.ga K "law" | _ => 0) (fun i => match i with | 0 => fd0 | 1 => fd1 | 2 => fd2 | 3 => fd3 | 4 => fd4 | 5 => fd5 | 6 => fd6 | _ => fd0) :=
    { F_is_name := F0
      m_is_name := He.glo_ok X G (c.s.fact 0 (f := .glo "is_name") rfl)
      F_is_layer := F1
      m_is_layer := He.glo_ok X G (c.s.fact 1 (f := .glo "is_layer") rfl)
      F__law_source := F2
      m__law_source := He.glo_ok X G (c.s.fact 2 (f := .glo "_law_source") rfl)
      F__law_draw := F3
      m__law_draw := He.glo_ok X G (c.s.fact 3 (f := .glo "_law_draw") rfl)
      F__law_of := F4
      m__law_of := He.glo_ok X G (c.s.fact 4 (f := .glo "_law_of") rfl)
      F__law_same := F5
      m__law_same := He.glo_ok X G (c.s.fact 5 (f := .glo "_law_same") rfl)
      F_law := F6
      n_isinstance := He.free_ok X G (c.s.fact 7 (f := .free "isinstance") rfl)
      n_str := He.free_ok X G (c.s.fact 8 (f := .free "str") rfl)
      n_len := He.free_ok X G (c.s.fact 9 (f := .free "len") rfl)
      n_all := He.free_ok X G (c.s.fact 10 (f := .free "all") rfl)
      n_int := He.free_ok X G (c.s.fact 11 (f := .free "int") rfl)
      n_list := He.free_ok X G (c.s.fact 12 (f := .free "list") rfl)
      n_repr := He.free_ok X G (c.s.fact 13 (f := .free "repr") rfl)
      n_range := He.free_ok X G (c.s.fact 14 (f := .free "range") rfl)
      c_LETTERS := c.glob X G 0 rfl
      c_LAYERS := c.glob X G 1 rfl
      c_STRANGERS := c.glob X G 2 rfl }
  exact ⟨fd6, binds1_of F6 fun _ _ _ _ _ _ u => rfl, fun base _ _ => ok_law T⟩
end
end K05
open PySem PySem.W PySem.Calls PyProof.Rows in
set_option maxRecDepth 100000 in
set_option maxHeartbeats 0 in
theorem PySem.Challenge.cw_missingmiles_k05_names_and_layers_holds : PySem.Challenge.rw_missingmiles_k05_names_and_layers.Holds := by
  w_on; o_law
  refine HandSHeadRun.head_any (r := OpenLaw.row PySem.Challenge.rw_missingmiles_k05_names_and_layers) (q := K05.qv) (H := K05.hk) (ob := K05.ob) (M := 600) (loose := K05.names) (d := HandSHeadRun.topDef (OpenLaw.row PySem.Challenge.rw_missingmiles_k05_names_and_layers).prog 11) (kwd := []) K05.ob_eq
    (by kernel_rfl) (fun s => by kernel_rfl) K05.run (by kernel_rfl) (by kernel_rfl) (by kernel_rfl) (by rfl) (by first | assumption | decide +kernel) (by decide +kernel) ⟨rfl, rfl, rfl, rfl, rfl, by decide +kernel⟩ ?hw ?hc
  case hw => w_witness2
  case hc =>
    refine DL.walk_ofX (l := PySem.Challenge.rw_missingmiles_k05_names_and_layers) (n := 63) (k := 4) (x := "_law_script") rfl (by decide) (by kernel_rfl) ⟨rfl, by decide, by decide⟩ ?F
    intro w mg fa h Y G hmg0
    obtain ⟨K, KX, c⟩ := Y
    have hmg : mg ("law" : PySem.Str) = some (.ref fa) := by
      have e : (HandSHeadRun.topDef (OpenLaw.row PySem.Challenge.rw_missingmiles_k05_names_and_layers).prog 11).name = ("law" : PySem.Str) := by kernel_rfl
      rw [← e]
      exact hmg0
    obtain ⟨fd, hb, hF⟩ := K05.facts (P := PySem.Challenge.rw_missingmiles_k05_names_and_layers.prog) (w := w) KX G hmg c
    exact ⟨K, fd, DL.spLaw K, KX, hb, fun H a ns hl hS => ⟨a, ns, rfl, hS, hl, fun _ => rfl⟩, hF⟩

