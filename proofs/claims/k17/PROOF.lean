import PyProof.Rows.All
import Wide.All
import OpenK.AllK
import Wide.FinOn
import HandS.ForMost
import HandS.ForExc
import HandS.Lambda
import HandS.CallSlots
import HandS.Defaults
import HandS.ExcInit
import HandS.ExcValue
import HandS.TupAny
import HandS.IsInst
import HandS.ExcField
import KE.KExcIs
import HandS.Style
import PyProof.ReprRoads
import HandS.ExcOwn
import HandS.RaiseMore
import HandS.Wide
import HandS.EndTab
import HandS.SlotsOwn
import KE.KOpsOwn
import HandS.FStr
import HandS.OwnEq
import KE.KCallOwn
import HandS.ClsMeth
import HandS.Text
import HandS.Property
import HandS.SetFor
import HandS.TupSets
import HandS.Strs
import HandS.Star
import HandS.Zip
import HandS.IterVal
import KE.KOwnIter
import PyProof.FString5
import KE.KFmtOwn
import PySem.Challenge.RW_emptypulls_k17_texts_of_tours
set_option Elab.async false
set_option linter.all false
set_option maxRecDepth 100000
set_option maxHeartbeats 0
set_option autoImplicit false
/-! Value semantics over the hand layer: data, the pen's monad, mirrors. -/
namespace ME
open PySem L2

/-- a Python value as plain data -/
inductive D where
  | non
  | bl (b : Bool)
  | int (i : Int)
  | str (x : Str)
  | tup (l : List D)
  | lst (l : List D)
  | dct (l : List (Key × D))
  | obj (c : Nat) (fs : List D)
  | exc (c : Nat) (fs : List D)
  | cls (c : Nat)
  | ty (n : String)
  | pen
  | clo (k : Nat)
  deriving Inhabited

/-- the law's pen: the cells, the number of the next one, what is left of a great one -/
structure Pn where
  cells : List Int
  no : Int
  rest : Int

inductive Out (α : Type) where
  | ok (a : α)
  | ex (c : Nat) (fs : List D)

/-- none: nothing is claimed -/
abbrev M (α : Type) := Pn → Option (Out α × Pn)

def M.ret {α : Type} (a : α) : M α := fun p => some (.ok a, p)
def M.err {α : Type} (c : Nat) (fs : List D) : M α := fun p => some (.ex c fs, p)
def M.stuck {α : Type} : M α := fun _ => none
def M.bnd {α β : Type} (m : M α) (k : α → M β) : M β := fun p => match m p with
  | none => none
  | some (.ok a, p') => k a p'
  | some (.ex c fs, p') => some (.ex c fs, p')
instance : Monad M where
  pure := M.ret
  bind := M.bnd
def M.opt {α : Type} : Option α → M α
  | some a => M.ret a
  | none => M.stuck

/-- a slot: a value, or an own list, dict, instance that is still being made -/
inductive Sl where
  | d (x : D)
  | ml (xs : List D)
  | md (kvs : List (Key × D))
  | mo (c : Nat) (fs : List D)
abbrev DS := List (Option Sl)
abbrev EX := DS → M D
abbrev TX := DS → M Bool
abbrev AX := DS → M (List D)

/-- where a statement ends -/
inductive Fl where
  | nx (δ : DS)
  | rt (d : D)
  | bk (δ : DS)
  | ct (δ : DS)
  | er (c : Nat) (fs : List D) (δ : DS)
abbrev SX := DS → Pn → Option (Fl × Pn)

end ME

namespace ME
open PySem L2

/-- the classes: names of the attributes in the order of their stores, addresses -/
structure Sg where
  K : PySem.W.Frag
  nm : Nat → List Str
  ca : Nat → Addr
  T : List (Addr × Str)

/-- an exception object at a, of the class at C, its own dict at d -/
def ExV (a C : Addr) (d : Option Addr) : HO := .ext fun h => ∃ oe vs, h.get? a = some oe ∧ Zc (.ref C) d oe ∧ oe.data = .fields vs
theorem ExV_ok {P : Program} {w : World} {H : Hp} {h : Heap} {a C : Addr} {d : Option Addr} {oe : Obj} {vs : Array Value} (e : h.get? a = some oe) (z : Zc (.ref C) d oe) (hd : oe.data = .fields vs) : ObjOk P w H h a (ExV a C d) :=
  ⟨⟨oe, vs, e, z, hd⟩, ⟨oe, e⟩, fun h1 h2 ⟨oe, vs, e, z, q⟩ k => ⟨oe, vs, k oe e, z, q⟩⟩
theorem ExV_tbl {a C : Addr} {d : Option Addr} (x : Array Value) : ExV a C d ≠ .tbl x := by intro z; cases z

mutual
inductive Rep (S : Sg) (G : Hp) (pen : Addr) : V → D → Prop
  | non : Rep S G pen .non .non
  | bl (b : Bool) : Rep S G pen (.bl b) (.bl b)
  | int (i : Int) : Rep S G pen (.int i) (.int i)
  | str (x : Str) : Rep S G pen (.str x) (.str x)
  | tup {a : Addr} {vs : List V} {ds : List D} : SqT S.K G a vs → Reps S G pen vs ds → Rep S G pen (.ref a) (.tup ds)
  | lst {a : Addr} {vs : List V} {ds : List D} : G a = some (.lst vs) → Reps S G pen vs ds → Rep S G pen (.ref a) (.lst ds)
  | dct {a : Addr} {kvs : List (Key × V)} {ds : List (Key × D)} : G a = some (.dK kvs) → RepK S G pen kvs ds → Rep S G pen (.ref a) (.dct ds)
  | obj {a dx : Addr} {c : Nat} {vs : List V} {ds : List D} : G a = some (.ins (S.ca c) dx ((S.nm c).zip vs)) → vs.length = (S.nm c).length → Reps S G pen vs ds → Rep S G pen (.ref a) (.obj c ds)
  | exc {a d : Addr} {c : Nat} {fs : List (Str × V)} {vs : List V} {ds : List D} : G a = some (ExV a (S.ca c) (some d)) → G d = some (.xd fs) → (∀ f, fs.lookup f = ((S.nm c).zip vs).lookup f) → vs.length = (S.nm c).length → Reps S G pen vs ds → Rep S G pen (.ref a) (.exc c ds)
  | exc0 {a : Addr} {c : Nat} : G a = some (ExV a (S.ca c) none) → Rep S G pen (.ref a) (.exc c [])
  | cls (c : Nat) : Rep S G pen (.ref (S.ca c)) (.cls c)
  | ty (n : String) : Rep S G pen (.ty n) (.ty n)
  | pen : Rep S G pen (.ref pen) .pen
  | clo (f : Addr) : Rep S G pen (.ref f) (.clo f)
inductive Reps (S : Sg) (G : Hp) (pen : Addr) : List V → List D → Prop
  | nil : Reps S G pen [] []
  | cons {v : V} {vs : List V} {d : D} {ds : List D} : Rep S G pen v d → Reps S G pen vs ds → Reps S G pen (v :: vs) (d :: ds)
inductive RepK (S : Sg) (G : Hp) (pen : Addr) : List (Key × V) → List (Key × D) → Prop
  | nil : RepK S G pen [] []
  | cons {k : Key} {v : V} {vs : List (Key × V)} {d : D} {ds : List (Key × D)} : Rep S G pen v d → RepK S G pen vs ds → RepK S G pen ((k, v) :: vs) ((k, d) :: ds)
end

/-- all that stands in G stands in H -/
def Sub (G H : Hp) : Prop := ∀ a o, G a = some o → H a = some o
theorem Sub.refl (G : Hp) : Sub G G := fun _ _ e => e
theorem Sub.trans {A B C : Hp} (h : Sub A B) (k : Sub B C) : Sub A C := fun a o e => k a o (h a o e)
theorem Sub.rd {G H : Hp} (s : Sub G H) {a : Addr} {u : HO} (r : Rd G a u) : Rd H a u := by
  rcases r with r | ⟨o, r⟩
  · exact .inl (s a _ r)
  · exact .inr ⟨o, s a _ r⟩
theorem Sub.sql {G H : Hp} {K : PySem.W.Frag} (s : Sub G H) {a : Addr} {xs : List V} (r : SqL K G a xs) : SqL K H a xs := by
  rcases r with r | r
  · exact .inl (s.rd r)
  · exact .inr r
theorem Sub.sqt {G H : Hp} {K : PySem.W.Frag} (s : Sub G H) {a : Addr} {xs : List V} (r : SqT K G a xs) : SqT K H a xs := by
  rcases r with r | r
  · exact .inl (s.rd r)
  · exact .inr r

section
variable {S : Sg} {G G' : Hp} {pen : Addr}
mutual
theorem Rep.mono (s : Sub G G') : ∀ {v : V} {d : D}, Rep S G pen v d → Rep S G' pen v d
  | _, _, .non => .non
  | _, _, .bl b => .bl b
  | _, _, .int b => .int b
  | _, _, .str b => .str b
  | _, _, .tup h r => .tup (s.sqt h) (Reps.mono s r)
  | _, _, .lst h r => .lst (s _ _ h) (Reps.mono s r)
  | _, _, .dct h r => .dct (s _ _ h) (RepK.mono s r)
  | _, _, .obj h l r => .obj (s _ _ h) l (Reps.mono s r)
  | _, _, .exc h h2 h3 l r => .exc (s _ _ h) (s _ _ h2) h3 l (Reps.mono s r)
  | _, _, .exc0 h => .exc0 (s _ _ h)
  | _, _, .cls c => .cls c
  | _, _, .ty n => .ty n
  | _, _, .pen => .pen
  | _, _, .clo f => .clo f
theorem Reps.mono (s : Sub G G') : ∀ {v : List V} {d : List D}, Reps S G pen v d → Reps S G' pen v d
  | _, _, .nil => .nil
  | _, _, .cons h r => .cons (Rep.mono s h) (Reps.mono s r)
theorem RepK.mono (s : Sub G G') : ∀ {v : List (Key × V)} {d : List (Key × D)}, RepK S G pen v d → RepK S G' pen v d
  | _, _, .nil => .nil
  | _, _, .cons h r => .cons (Rep.mono s h) (RepK.mono s r)
end
theorem Reps.length : ∀ {vs : List V} {ds : List D}, Reps S G pen vs ds → vs.length = ds.length
  | _, _, .nil => rfl
  | _, _, .cons _ r => by simp [Reps.length r]
theorem Reps.isEmpty : ∀ {vs : List V} {ds : List D}, Reps S G pen vs ds → vs.isEmpty = ds.isEmpty
  | _, _, .nil => rfl
  | _, _, .cons _ _ => rfl
theorem RepK.isEmpty : ∀ {vs : List (Key × V)} {ds : List (Key × D)}, RepK S G pen vs ds → vs.isEmpty = ds.isEmpty
  | _, _, .nil => rfl
  | _, _, .cons _ _ => rfl
theorem RepK.length : ∀ {vs : List (Key × V)} {ds : List (Key × D)}, RepK S G pen vs ds → vs.length = ds.length
  | _, _, .nil => rfl
  | _, _, .cons _ r => by simp [RepK.length r]
theorem Reps.append : ∀ {vs us : List V} {ds es : List D}, Reps S G pen vs ds → Reps S G pen us es → Reps S G pen (vs ++ us) (ds ++ es)
  | _, _, _, _, .nil, h => h
  | _, _, _, _, .cons h r, k => .cons h (Reps.append r k)
theorem Reps.get : ∀ {vs : List V} {ds : List D} {i : Nat} {d : D}, Reps S G pen vs ds → ds[i]? = some d → ∃ v, vs[i]? = some v ∧ Rep S G pen v d
  | _, _, _, _, .nil, e => by simp at e
  | _, _, 0, _, .cons h _, e => by simp at e; subst e; exact ⟨_, rfl, h⟩
  | _, _, i + 1, _, .cons _ r, e => by
    obtain ⟨v, h1, h2⟩ := Reps.get (i := i) r (by simpa using e)
    exact ⟨v, by simpa using h1, h2⟩
theorem Reps.getV : ∀ {vs : List V} {ds : List D} {i : Nat} {v : V}, Reps S G pen vs ds → vs[i]? = some v → ∃ d, ds[i]? = some d ∧ Rep S G pen v d
  | _, _, _, _, .nil, e => by simp at e
  | _, _, 0, _, .cons h _, e => by simp at e; subst e; exact ⟨_, rfl, h⟩
  | _, _, i + 1, _, .cons _ r, e => by
    obtain ⟨v, h1, h2⟩ := Reps.getV (i := i) r (by simpa using e)
    exact ⟨v, by simpa using h1, h2⟩
theorem Reps.take : ∀ {vs : List V} {ds : List D} (n : Nat), Reps S G pen vs ds → Reps S G pen (vs.take n) (ds.take n)
  | _, _, 0, _ => .nil
  | _, _, _ + 1, .nil => .nil
  | _, _, n + 1, .cons h r => .cons h (Reps.take n r)
theorem Reps.drop : ∀ {vs : List V} {ds : List D} (n : Nat), Reps S G pen vs ds → Reps S G pen (vs.drop n) (ds.drop n)
  | _, _, 0, r => r
  | _, _, _ + 1, .nil => .nil
  | _, _, n + 1, .cons _ r => Reps.drop n r
end

/-- the world: what is frozen, the pen, the tables -/
structure Wd (S : Sg) (pen : Addr) (G H : Hp) (p : Pn) : Prop where
  sub : Sub G H
  np : G pen = none
  pn : ∃ l, H pen = some (.lst [.ref l, .int p.no, .int p.rest]) ∧ G l = some (.lst (p.cells.map V.int))
  tabs : LamX.Tabs S.T H
  gt : ∀ q ∈ S.T, G q.1 = none
/-- what a piece of code leaves as it was -/
structure Ex (pen : Addr) (G H G' H' : Hp) : Prop where
  sub : Sub G G'
  keep : ∀ a o, a ≠ pen → (∀ x, o ≠ .tbl x) → H a = some o → H' a = some o
  dom : ∀ a, H' a = none → H a = none
  un : ∀ a, G a = none → H a ≠ none → G' a = none
theorem Ex.refl {pen : Addr} {G H : Hp} : Ex pen G H G H := ⟨Sub.refl _, fun _ _ _ _ e => e, fun _ e => e, fun _ e _ => e⟩
theorem Ex.trans {pen : Addr} {G H G1 H1 G2 H2 : Hp} (a : Ex pen G H G1 H1) (b : Ex pen G1 H1 G2 H2) : Ex pen G H G2 H2 :=
  ⟨a.sub.trans b.sub, fun c o h1 h2 e => b.keep c o h1 h2 (a.keep c o h1 h2 e), fun c e => a.dom c (b.dom c e), fun c e n => b.un c (a.un c e n) fun z => n (a.dom c z)⟩
section
variable {S : Sg} {pen a : Addr} {G H : Hp} {p : Pn} {o : HO}
theorem Wd.ne (w : Wd S pen G H p) (h : H a = none) : a ≠ pen := by
  obtain ⟨l, e, _⟩ := w.pn
  intro z; subst z; rw [e] at h; cases h
theorem Wd.gfree (w : Wd S pen G H p) (h : H a = none) : G a = none := by
  cases e : G a with
  | none => rfl
  | some u => rw [w.sub a u e] at h; cases h
theorem Sub.alloc (h : G a = none) : Sub G (upd G a o) := fun b u e => by
  have : b ≠ a := fun z => by rw [z, h] at e; cases e
  rw [upd_ne this]; exact e
/-- a new object that is frozen at once -/
theorem Wd.alloc (w : Wd S pen G H p) (h : H a = none) : Wd S pen (upd G a o) (upd H a o) p := by
  have na := w.ne h
  obtain ⟨l, e, c⟩ := id w.pn
  have tn : ∀ q ∈ S.T, q.1 ≠ a := fun q hq z => by
    obtain ⟨ps, hP, _⟩ := w.tabs q hq
    rw [z, h] at hP; cases hP
  refine ⟨fun b u q => ?_, ?_, ⟨l, ?_, Sub.alloc (w.gfree h) _ _ c⟩, ?_, fun q hq => by rw [upd_ne (tn q hq)]; exact w.gt q hq⟩
  · by_cases z : b = a
    · subst z; rw [upd_same] at q ⊢; exact q
    · rw [upd_ne z] at q ⊢; exact w.sub b u q
  · rw [upd_ne (Ne.symm na)]; exact w.np
  · rw [upd_ne (Ne.symm na)]; exact e
  · exact LamX.Tabs.ext w.tabs fun b u q => by rw [upd_ne (ne_of_none q h)]; exact q
/-- a new object that is not frozen -/
theorem Wd.allocM (w : Wd S pen G H p) (h : H a = none) : Wd S pen G (upd H a o) p := by
  have na := w.ne h
  obtain ⟨l, e, c⟩ := id w.pn
  refine ⟨fun b u q => ?_, w.np, ⟨l, ?_, c⟩, ?_, w.gt⟩
  · have := w.sub b u q
    rw [upd_ne (ne_of_none this h)]; exact this
  · rw [upd_ne (Ne.symm na)]; exact e
  · exact LamX.Tabs.ext w.tabs fun b u q => by rw [upd_ne (ne_of_none q h)]; exact q
theorem Ex.alloc (h : H a = none) (hg : G a = none) : Ex pen G H (upd G a o) (upd H a o) :=
  ⟨Sub.alloc hg, fun b u _ _ e => by rw [upd_ne (ne_of_none e h)]; exact e, fun b e => by
    by_cases z : b = a
    · subst z; rw [upd_same] at e; cases e
    · rw [upd_ne z] at e; exact e, fun b e n => by
    have : b ≠ a := fun z => n (by rw [z]; exact h)
    rw [upd_ne this]; exact e⟩
theorem Ex.allocM (h : H a = none) : Ex pen G H G (upd H a o) :=
  ⟨Sub.refl _, fun b u _ _ e => by rw [upd_ne (ne_of_none e h)]; exact e, fun b e => by
    by_cases z : b = a
    · subst z; rw [upd_same] at e; cases e
    · rw [upd_ne z] at e; exact e, fun b e _ => e⟩
end

/-- the fields of an exception in flight -/
def RepX (S : Sg) (G : Hp) (pen : Addr) (d : Option Addr) (c : Nat) (ds : List D) : Prop :=
  match d with
  | none => ds = [] ∧ S.nm c = []
  | some x => ∃ fs vs, G x = some (.xd fs) ∧ (∀ f, fs.lookup f = ((S.nm c).zip vs).lookup f) ∧ vs.length = (S.nm c).length ∧ Reps S G pen vs ds
theorem RepX.mono {S : Sg} {G G' : Hp} {pen : Addr} {d : Option Addr} {c : Nat} {ds : List D} (s : Sub G G') (h : RepX S G pen d c ds) : RepX S G' pen d c ds := by
  cases d with
  | none => exact h
  | some x =>
    obtain ⟨fs, vs, h1, h2, h3, h4⟩ := h
    exact ⟨fs, vs, s _ _ h1, h2, h3, h4.mono s⟩

/-- what is claimed behind a piece of code that ends as r -/
def Post {α β : Type} (S : Sg) (pen : Addr) (R : Hp → β → α → Prop) (G H : Hp) (Q : β → Hp → Prop) (E : XK) : Option (Out α × Pn) → Prop
  | none => False
  | some (.ok d, p') => ∀ v G' H', Ex pen G H G' H' → Wd S pen G' H' p' → R G' v d → Q v H'
  | some (.ex c fs, p') => ∀ d G' H', Ex pen G H G' H' → Wd S pen G' H' p' → RepX S G' pen d c fs → E (.ref (S.ca c)) d H'
theorem Post.ex {α β : Type} {S : Sg} {pen : Addr} {R : Hp → β → α → Prop} {G H G1 H1 : Hp} {Q : β → Hp → Prop} {E : XK} {r : Option (Out α × Pn)} (x : Ex pen G H G1 H1) (h : Post S pen R G H Q E r) : Post S pen R G1 H1 Q E r := by
  match r, h with
  | some (.ok d, p'), h => exact fun v G' H' e w q => h v G' H' (x.trans e) w q
  | some (.ex c fs, p'), h => exact fun d G' H' e w q => h d G' H' (x.trans e) w q

/-- the slots -/
structure SlR (S : Sg) (pen : Addr) (B G H : Hp) (σ : St) (δ : DS) : Prop where
  len : σ.length = δ.length
  val : ∀ (i : Nat) x, δ[i]? = some (some (.d x)) → ∃ v, σ[i]? = some (some v) ∧ Rep S G pen v x
  ml : ∀ (i : Nat) xs, δ[i]? = some (some (.ml xs)) → ∃ l vs, σ[i]? = some (some (.ref l)) ∧ H l = some (.lst vs) ∧ Reps S G pen vs xs ∧ G l = none ∧ B l = none ∧ l ≠ pen
  md : ∀ (i : Nat) xs, δ[i]? = some (some (.md xs)) → ∃ l vs, σ[i]? = some (some (.ref l)) ∧ H l = some (.dK vs) ∧ RepK S G pen vs xs ∧ G l = none ∧ B l = none ∧ l ≠ pen
  mo : ∀ (i : Nat) c xs, δ[i]? = some (some (.mo c xs)) → ∃ l dx vs, σ[i]? = some (some (.ref l)) ∧ H l = some (.ins (S.ca c) dx (((S.nm c).take xs.length).zip vs)) ∧ Reps S G pen vs xs ∧ xs.length ≤ (S.nm c).length ∧ G l = none ∧ l ≠ pen ∧ B l = some (.tbl #[.ref dx])
  inj : ∀ (i j : Nat) s t l, δ[i]? = some (some s) → δ[j]? = some (some t) → (∀ x, s ≠ .d x) → (∀ x, t ≠ .d x) → σ[i]? = some (some (.ref l)) → σ[j]? = some (some (.ref l)) → i = j
theorem SlR.ex {S : Sg} {pen : Addr} {B G H G' H' : Hp} {σ : St} {δ : DS} (h : SlR S pen B G H σ δ) (x : Ex pen G H G' H') : SlR S pen B G' H' σ δ where
  len := h.len
  val := fun i y e => by obtain ⟨v, h1, h2⟩ := h.val i y e; exact ⟨v, h1, h2.mono x.sub⟩
  ml := fun i xs e => by
    obtain ⟨l, vs, h1, h2, h3, h4, h5, h6⟩ := h.ml i xs e
    exact ⟨l, vs, h1, x.keep l _ h6 (fun _ z => nomatch z) h2, h3.mono x.sub, x.un l h4 (by rw [h2]; simp), h5, h6⟩
  md := fun i xs e => by
    obtain ⟨l, vs, h1, h2, h3, h4, h5, h6⟩ := h.md i xs e
    exact ⟨l, vs, h1, x.keep l _ h6 (fun _ z => nomatch z) h2, h3.mono x.sub, x.un l h4 (by rw [h2]; simp), h5, h6⟩
  mo := fun i c xs e => by
    obtain ⟨l, dx, vs, h1, h2, h3, h4, h5, h6⟩ := h.mo i c xs e
    exact ⟨l, dx, vs, h1, x.keep l _ h6.1 (fun _ z => nomatch z) h2, h3.mono x.sub, h4, x.un l h5 (by rw [h2]; simp), h6⟩
  inj := h.inj
end ME

namespace ME
open PySem L2

abbrev Rl (β α : Type) := Hp → β → α → Prop
def Rl.Mono {β α : Type} (R : Rl β α) : Prop := ∀ G G' b a, Sub G G' → R G b a → R G' b a
def r0 : Rl Unit Unit := fun _ _ _ => True
def rB : Rl Bool Bool := fun _ b d => b = d
def rP {β α γ κ : Type} (R : Rl β α) (R' : Rl γ κ) : Rl (β × γ) (α × κ) := fun G b a => R G b.1 a.1 ∧ R' G b.2 a.2
theorem r0_mono : r0.Mono := fun _ _ _ _ _ _ => trivial
theorem rB_mono : rB.Mono := fun _ _ _ _ _ h => h
theorem rP_mono {β α γ κ : Type} {R : Rl β α} {R' : Rl γ κ} (h : R.Mono) (h' : R'.Mono) : (rP R R').Mono := fun G G' b a s x => ⟨h G G' _ _ s x.1, h' G G' _ _ s x.2⟩

/-- where a body stands: the classes, the pen, the heap at the entry, the wish about exceptions -/
structure Am where
  S : Sg
  pen : Addr
  G0 : Hp
  B : Hp
  W : WX
def Am.rE (a : Am) : Rl V D := fun G v d => Rep a.S G a.pen v d
def Am.rA (a : Am) : Rl (List V) (List D) := fun G v d => Reps a.S G a.pen v d
theorem rE_mono (a : Am) : a.rE.Mono := fun _ _ _ _ s h => Rep.mono s h
theorem rA_mono (a : Am) : a.rA.Mono := fun _ _ _ _ s h => Reps.mono s h

/-- b at hand stands for some a; go on with k a -/
def tY {β0 α0 β α : Type} (m : Am) (R0 : Rl β0 α0) (R : Rl β α) (b : β0) (k : α0 → DS → M α) (σ : St) (H : Hp) (Q : β → Hp → Prop) : Prop :=
  ∃ G p δ a, Wd m.S m.pen G H p ∧ SlR m.S m.pen m.B G H σ δ ∧ R0 G b a ∧ Post m.S m.pen R G H Q (fun c d H' => m.W c d σ H') (k a δ p)
def tE (m : Am) (e : EX) : TE := fun σ H Q => tY m r0 m.rE () (fun _ => e) σ H Q
def tT (m : Am) (e : TX) : TT := fun σ H Q => tY m r0 rB () (fun _ => e) σ H Q
def tAs (m : Am) (e : AX) : TA := fun σ H Q => tY m r0 m.rA () (fun _ => e) σ H Q

section
variable {m : Am} {β0 α0 β1 α1 β α : Type} {R0 : Rl β0 α0} {R1 : Rl β1 α1} {R : Rl β α} {b : β0} {σ : St} {H : Hp}
/-- THE STEP: first e, then k -/
theorem tY_bind {e : DS → M α1} {k : α0 → α1 → DS → M α} {Q : β → Hp → Prop} (hm : R0.Mono) (h : tY m R0 R b (fun a δ => (e δ).bnd fun a1 => k a a1 δ) σ H Q) :
    tY m r0 R1 () (fun _ => e) σ H (fun b1 H1 => tY m (rP R0 R1) R (b, b1) (fun a => k a.1 a.2) σ H1 Q) := by
  obtain ⟨G, p, δ, a, w, sl, r, h⟩ := h
  refine ⟨G, p, δ, (), w, sl, trivial, ?_⟩
  dsimp only [M.bnd] at h ⊢
  rcases he : e δ p with _ | ⟨o, p1⟩
  · rw [he] at h; exact h
  · cases o with
    | ok a1 =>
      rw [he] at h
      intro b1 G1 H1 x w1 r1
      exact ⟨G1, p1, δ, (a, a1), w1, sl.ex x, ⟨hm _ _ _ _ x.sub r, r1⟩, Post.ex x h⟩
    | ex c fs => rw [he] at h; exact h
theorem Post.imp {S : Sg} {pen : Addr} {G : Hp} {Q Q' : β → Hp → Prop} {E : XK} {r : Option (Out α × Pn)} (h : Post S pen R G H Q E r) (i : ∀ v H', Q v H' → Q' v H') : Post S pen R G H Q' E r := by
  rcases r with _ | ⟨o, p1⟩
  · exact h
  · cases o with
    | ok a1 => exact fun v G' H' x w q => i v H' (h v G' H' x w q)
    | ex c fs => exact h
theorem tY.imp {k : α0 → DS → M α} {Q Q' : β → Hp → Prop} (h : tY m R0 R b k σ H Q) (i : ∀ v H', Q v H' → Q' v H') : tY m R0 R b k σ H Q' := by
  obtain ⟨G, p, δ, a, w, sl, r, h⟩ := h
  exact ⟨G, p, δ, a, w, sl, r, Post.imp h i⟩
end

theorem PE.imp {X : Cx} {e : Expr} {t t' : TE} (h : PE X e t) (i : ∀ σ H Q, t' σ H Q → t σ H Q) : PE X e t' := ⟨fun pins s σ H Q I q => h.run pins s σ H Q I (i σ H Q q)⟩
theorem PT.imp {X : Cx} {e : Expr} {t t' : TT} (h : PT X e t) (i : ∀ σ H Q, t' σ H Q → t σ H Q) : PT X e t' := ⟨fun pins s σ H Q I q => h.run pins s σ H Q I (i σ H Q q)⟩
theorem PA.imp {X : Cx} {e : List Expr} {t t' : TA} (h : PA X e t) (i : ∀ σ H Q, t' σ H Q → t σ H Q) : PA X e t' := ⟨fun pos pins s σ H Q I q => h.run pos pins s σ H Q I (i σ H Q q)⟩
theorem PS.imp {X : Cx} {e : Stmt} {t t' : TS} (h : PS X e t) (i : ∀ D σ H, t' D σ H → t D σ H) : PS X e t' := ⟨fun pins s σ H D I q => h.run pins s σ H D I (i D σ H q)⟩
theorem PSs.imp {X : Cx} {e : List Stmt} {t t' : TS} (h : PSs X e t) (i : ∀ D σ H, t' D σ H → t D σ H) : PSs X e t' := ⟨fun pins s σ H D I q => h.run pins s σ H D I (i D σ H q)⟩

theorem M.assoc {α β γ : Type} (a : M α) (f : α → M β) (g : β → M γ) : (a.bnd f).bnd g = a.bnd fun x => (f x).bnd g := by
  funext p
  dsimp only [M.bnd]
  rcases a p with _ | ⟨o, p1⟩
  · rfl
  · cases o <;> rfl
theorem M.ret_bnd {α β : Type} (a : α) (f : α → M β) : (M.ret a).bnd f = f a := rfl
theorem M.bnd_ret {α : Type} (a : M α) : (a.bnd fun x => M.ret x) = a := by
  funext p
  dsimp only [M.bnd]
  rcases a p with _ | ⟨o, p1⟩
  · rfl
  · cases o <;> rfl
/-! ### mirrors of expressions -/
def mVar (i : Nat) : EX := fun δ p => match δ[i]? with
  | some (some (.d x)) => some (.ok x, p)
  | _ => none
def mC (d : D) : EX := fun _ => M.ret d
def mBin (o : D → D → M D) (a b : EX) : EX := fun δ => (a δ).bnd fun x => (b δ).bnd fun y => o x y
def mUn (o : D → M D) (a : EX) : EX := fun δ => (a δ).bnd o
def mIf (c : TX) (a b : EX) : EX := fun δ => (c δ).bnd fun k => if k = true then a δ else b δ
/-- the truth of a value -/
def dTru : D → Option Bool
  | .non => some false
  | .bl b => some b
  | .int i => some (i != 0)
  | .str x => if x.length ≤ 16777216 then some (x.length != 0) else none
  | .tup l => some (!l.isEmpty)
  | .lst l => some (!l.isEmpty)
  | .dct l => some (!l.isEmpty)
  | _ => none
def dB : D → Option Bool
  | .bl b => some b
  | _ => none
/-- an expression that gives a bool, as a test -/
def mTest (a : EX) : TX := fun δ => (a δ).bnd fun x => M.opt (dB x)
def mTru (a : EX) : TX := fun δ => (a δ).bnd fun x => M.opt (dTru x)
def mNotT (a : TX) : TX := fun δ => (a δ).bnd fun x => M.ret (!x)
def mAndT (a b : TX) : TX := fun δ => (a δ).bnd fun x => if x = true then b δ else M.ret false
def mOrT (a b : TX) : TX := fun δ => (a δ).bnd fun x => if x = true then M.ret true else b δ
def mAndV (a b : EX) : EX := fun δ => (a δ).bnd fun x => (M.opt (dB x)).bnd fun k => if k = true then b δ else M.ret (.bl false)
def mOrV (a b : EX) : EX := fun δ => (a δ).bnd fun x => (M.opt (dB x)).bnd fun k => if k = true then M.ret (.bl true) else b δ
def mNil : AX := fun _ => M.ret []
def mCons (a : EX) (r : AX) : AX := fun δ => (a δ).bnd fun x => (r δ).bnd fun xs => M.ret (x :: xs)
def mCall (f : List D → M D) (a : AX) : EX := fun δ => (a δ).bnd f

section
variable {X : Cx} {m : Am} {a b c : Expr} {pos : Pos} {ea eb ec : EX} {ta tb : TX}
theorem me_var {i : Nat} {x : Str} (hN : X.N[i]? = some x) (hv : Vis X.env.scope x) (hd : (x == ("__debug__" : Str)) = false := by decide) (hcd : (x == ("__classdict__" : Str)) = false := by decide) : PE X (.Name x pos) (tE m (mVar i)) := by
  refine PE.imp (pe_var hN hv hd hcd) fun σ H Q h => ?_
  obtain ⟨G, p, δ, _, w, sl, _, h⟩ := h
  dsimp only [mVar] at h
  split at h
  · rename_i x e
    obtain ⟨v, e1, r⟩ := sl.val i x e
    exact ⟨v, e1, h v G H Ex.refl w r⟩
  · exact h.elim
/-- a constant -/
theorem me_c {e : Expr} {v : V} {d : D} (h : PE X e (tC v)) (hr : ∀ G, Rep m.S G m.pen v d) : PE X e (tE m (mC d)) :=
  PE.imp h fun σ H Q ⟨G, p, δ, _, w, sl, _, h⟩ => h v G H Ex.refl w (hr G)
theorem me_int {i : Int} {j : Nat} : PE X (.Constant (.int i) j pos) (tE m (mC (.int i))) := me_c pe_int fun _ => .int i
theorem me_bl {i : Bool} {j : Nat} : PE X (.Constant (.bool i) j pos) (tE m (mC (.bl i))) := me_c pe_bl fun _ => .bl i
theorem me_non {j : Nat} : PE X (.Constant .none j pos) (tE m (mC .non)) := me_c pe_non fun _ => .non
theorem me_str {x : Str} {j : Nat} : PE X (.Constant (.str x) j pos) (tE m (mC (.str x))) := me_c pe_str fun _ => .str x

/-- a rule of two values -/
def R2Ok (m : Am) (r : R2) (o : D → D → M D) : Prop := ∀ σ x y H Q, tY m (rP (rP r0 m.rE) m.rE) m.rE (((), x), y) (fun z _ => o z.1.2 z.2) σ H Q → r x y H Q
def R1Ok (m : Am) (r : V → Hp → VK → Prop) (o : D → M D) : Prop := ∀ σ x H Q, tY m (rP r0 m.rE) m.rE ((), x) (fun z _ => o z.2) σ H Q → r x H Q
theorem me_op {op : Operator} {r : R2} {o : D → D → M D} (ho : OpR X (binaryOp op) r) (hr : R2Ok m r o) (ha : PE X a (tE m ea)) (hb : PE X b (tE m eb)) : PE X (.BinOp a op b pos) (tE m (mBin o ea eb)) := by
  refine PE.imp (pe_op ho ha hb) fun σ H Q h => ?_
  refine (tY_bind (R1 := m.rE) r0_mono h).imp fun x H1 h2 => ?_
  exact (tY_bind (R1 := m.rE) (rP_mono r0_mono (rE_mono m)) h2).imp fun y H2 h4 => hr σ x y H2 Q h4
theorem me_un {op : UnaryOp} {r : V → Hp → VK → Prop} {o : D → M D} (ho : UnR X (unaryOp op) r) (hr : R1Ok m r o) (ha : PE X a (tE m ea)) : PE X (.UnaryOp op a pos) (tE m (mUn o ea)) := by
  refine PE.imp (pe_un ho ha) fun σ H Q h => ?_
  exact (tY_bind (R1 := m.rE) r0_mono h).imp fun x H1 h2 => hr σ x H1 Q h2
theorem me_cmp {op : CmpOp} {r : R2} {o : D → D → M D} (ho : OpR X (compareOp op) r) (hr : R2Ok m r o) (ha : PE X a (tE m ea)) (hb : PE X b (tE m eb)) (hm : behindInMarks op b = false) : PE X (.Compare a [op] [b] pos) (tE m (mBin o ea eb)) := by
  refine PE.imp (pe_cmpR ho ha hb hm) fun σ H Q h => ?_
  refine (tY_bind (R1 := m.rE) r0_mono h).imp fun x H1 h2 => ?_
  exact (tY_bind (R1 := m.rE) (rP_mono r0_mono (rE_mono m)) h2).imp fun y H2 h4 => hr σ x y H2 Q h4
/-- a comparison as a test -/
theorem mt_cmp {op : CmpOp} {r : R2} {o : D → D → M D} (ho : OpR X (compareOp op) r) (hr : R2Ok m r o) (ha : PE X a (tE m ea)) (hb : PE X b (tE m eb)) (hm : behindInMarks op b = false) : PT X (.Compare a [op] [b] pos) (tT m (mTest (mBin o ea eb))) := by
  refine PT.imp (pt_cmpR ho ha hb hm) fun σ H Q h => ?_
  have h' : tY m r0 rB () (fun _ δ => (ea δ).bnd fun x => (eb δ).bnd fun y => (o x y).bnd fun z => M.opt (dB z)) σ H Q := by
    obtain ⟨G, p, δ, u, w, sl, r, h⟩ := h
    refine ⟨G, p, δ, u, w, sl, r, ?_⟩
    dsimp only [mTest, mBin] at h
    rw [M.assoc] at h
    simp only [M.assoc] at h
    exact h
  refine (tY_bind (R1 := m.rE) r0_mono h').imp fun x H1 h2 => ?_
  refine (tY_bind (R1 := m.rE) (rP_mono r0_mono (rE_mono m)) h2).imp fun y H2 h4 => hr σ x y H2 _ ?_
  obtain ⟨G, p, δ, u, w, sl, r, h5⟩ := h4
  refine ⟨G, p, δ, u, w, sl, r, ?_⟩
  dsimp only [M.bnd] at h5 ⊢
  rcases he : o u.1.2 u.2 p with _ | ⟨q, p1⟩
  · rw [he] at h5; exact h5
  · cases q with
    | ex c fs => rw [he] at h5; exact h5
    | ok z =>
      rw [he] at h5
      intro v G' H' x w r
      cases r with
      | bl k => exact ⟨k, rfl, h5 k G' H' x w rfl⟩
      | _ => exact h5.elim
end
end ME

namespace ME
open PySem L2

/-! ### tests, conditional expressions, argument lists -/
section
variable {X : Cx} {m : Am} {a b c e : Expr} {es rest : List Expr} {pos : Pos} {ea eb ec : EX} {ta tb tc : TX} {ra : AX}
/-- continue a bool -/
theorem tY_bool {β0 α0 : Type} {R0 : Rl β0 α0} {x : β0} {k : α0 → DS → M Bool} {σ : St} {H : Hp} {Q : Bool → Hp → Prop} (h : tY m R0 rB x k σ H Q) : tY m R0 rB x k σ H Q := h
theorem mt_val (ha : PE X e (tE m ea)) (he : ∀ whole, isTrue e X.env whole = (do let v ← whole; standAt e.pos; holding [v] (truthy v)) := by intro _; rfl) : PT X e (tT m (mTest ea)) := by
  refine PT.imp (pt_val ha he) fun σ H Q h => ?_
  refine (tY_bind (R1 := m.rE) r0_mono h).imp fun x H1 h2 => ?_
  obtain ⟨G, p, δ, ⟨_, d⟩, w, sl, ⟨_, r⟩, h5⟩ := h2
  have r : Rep m.S G m.pen x d := r
  cases r with
  | bl k => exact ⟨k, rfl, h5 k G H1 Ex.refl w rfl⟩
  | _ => exact h5.elim
theorem mt_tru (hK : X.K = m.S.K) (ha : PE X e (tE m ea)) (he : ∀ whole, isTrue e X.env whole = (do let v ← whole; standAt e.pos; holding [v] (truthy v)) := by intro _; rfl) : PT X e (tT m (mTru ea)) := by
  refine PT.imp (pt_truth ha he) fun σ H Q h => ?_
  refine (tY_bind (R1 := m.rE) r0_mono h).imp fun x H1 h2 => ?_
  obtain ⟨G, p, δ, ⟨_, d⟩, w, sl, ⟨_, r⟩, h5⟩ := h2
  have r : Rep m.S G m.pen x d := r
  have fin : ∀ k, dTru d = some k → Q k H1 := fun k ek => by
    dsimp only at h5
    rw [ek] at h5
    exact h5 k G H1 Ex.refl w rfl
  have nn : dTru d ≠ none := fun z => by
    dsimp only at h5
    rw [z] at h5
    exact h5
  rw [hK]
  cases r with
  | non => exact ⟨false, rfl, fin _ rfl⟩
  | bl b => exact ⟨b, rfl, fin _ rfl⟩
  | int i => exact ⟨i != 0, rfl, fin _ rfl⟩
  | str x =>
    dsimp only [dTru] at nn fin
    split at nn
    · rename_i hz
      rw [if_pos hz] at fin
      refine ⟨x.length != 0, ⟨by rw [sizeLine_eq]; exact hz, ?_⟩, fin _ rfl⟩
      cases x.length <;> rfl
    · exact absurd rfl nn
  | @tup aa vs ds h r1 =>
    have hl := r1.isEmpty
    exact ⟨!ds.isEmpty, .inr (.inl ⟨vs, w.sub.sqt h, by rw [hl]⟩), fin _ rfl⟩
  | @lst aa vs ds h r1 =>
    have hl := r1.isEmpty
    exact ⟨!ds.isEmpty, .inl ⟨vs, .of (w.sub _ _ h), by rw [hl]⟩, fin _ rfl⟩
  | @dct aa vs ds h r1 =>
    have hl := r1.isEmpty
    exact ⟨!ds.isEmpty, .inr (.inr ⟨vs, w.sub _ _ h, by rw [hl]⟩), fin _ rfl⟩
  | _ => exact absurd rfl nn
theorem mt_not (ha : PT X a (tT m ta)) : PT X (.UnaryOp .Not a pos) (tT m (mNotT ta)) := by
  refine PT.imp (pt_not ha) fun σ H Q h => ?_
  refine (tY_bind (R1 := rB) r0_mono h).imp fun x H1 h2 => ?_
  obtain ⟨G, p, δ, ⟨_, d⟩, w, sl, ⟨_, r⟩, h5⟩ := h2
  have r : x = d := r
  subst r
  exact h5 (!x) G H1 Ex.refl w rfl
theorem mw_and1 (ha : PT X a (tT m ta)) : PW X (.BoolOp .And [a] pos) (tT m ta) := pw_and1 ha
theorem mw_or1 (ha : PT X a (tT m ta)) : PW X (.BoolOp .Or [a] pos) (tT m ta) := pw_or1 ha
theorem mw_and (ha : PT X a (tT m ta)) (hb : PW X (.BoolOp .And (b :: rest) pos) (tT m tb)) : PW X (.BoolOp .And (a :: b :: rest) pos) (tT m (mAndT ta tb)) := by
  have h0 := pw_and ha hb
  refine ⟨fun wh pins s σ H Q I h => h0.run wh pins s σ H Q I ?_⟩
  refine (tY_bind (R1 := rB) r0_mono h).imp fun x H1 h2 => ?_
  obtain ⟨G, p, δ, ⟨_, d⟩, w, sl, ⟨_, r⟩, h5⟩ := h2
  have r : x = d := r
  subst r
  cases x with
  | true => exact ⟨G, p, δ, (), w, sl, trivial, h5⟩
  | false => exact h5 false G H1 Ex.refl w rfl
theorem mw_or (ha : PT X a (tT m ta)) (hb : PW X (.BoolOp .Or (b :: rest) pos) (tT m tb)) : PW X (.BoolOp .Or (a :: b :: rest) pos) (tT m (mOrT ta tb)) := by
  have h0 := pw_or ha hb
  refine ⟨fun wh pins s σ H Q I h => h0.run wh pins s σ H Q I ?_⟩
  refine (tY_bind (R1 := rB) r0_mono h).imp fun x H1 h2 => ?_
  obtain ⟨G, p, δ, ⟨_, d⟩, w, sl, ⟨_, r⟩, h5⟩ := h2
  have r : x = d := r
  subst r
  cases x with
  | false => exact ⟨G, p, δ, (), w, sl, trivial, h5⟩
  | true => exact h5 true G H1 Ex.refl w rfl
/-- and, or, not as values -/
theorem me_one {op : BoolOp} (h : PE X a (tE m ea)) : PE X (.BoolOp op [a] pos) (tE m ea) := pe_one h
theorem me_and (ha : PE X a (tE m ea)) (hb : PE X (.BoolOp .And (b :: rest) pos) (tE m eb)) : PE X (.BoolOp .And (a :: b :: rest) pos) (tE m (mAndV ea eb)) := by
  refine PE.imp (pe_and ha hb) fun σ H Q h => ?_
  refine (tY_bind (R1 := m.rE) r0_mono h).imp fun x H1 h2 => ?_
  obtain ⟨G, p, δ, ⟨_, d⟩, w, sl, ⟨_, r⟩, h5⟩ := h2
  have r : Rep m.S G m.pen x d := r
  cases r with
  | bl k =>
    refine ⟨k, rfl, ?_⟩
    cases k with
    | true => exact ⟨G, p, δ, (), w, sl, trivial, h5⟩
    | false => exact h5 (.bl false) G H1 Ex.refl w (.bl false)
  | _ => exact h5.elim
theorem me_or (ha : PE X a (tE m ea)) (hb : PE X (.BoolOp .Or (b :: rest) pos) (tE m eb)) : PE X (.BoolOp .Or (a :: b :: rest) pos) (tE m (mOrV ea eb)) := by
  refine PE.imp (pe_or ha hb) fun σ H Q h => ?_
  refine (tY_bind (R1 := m.rE) r0_mono h).imp fun x H1 h2 => ?_
  obtain ⟨G, p, δ, ⟨_, d⟩, w, sl, ⟨_, r⟩, h5⟩ := h2
  have r : Rep m.S G m.pen x d := r
  cases r with
  | bl k =>
    refine ⟨k, rfl, ?_⟩
    cases k with
    | false => exact ⟨G, p, δ, (), w, sl, trivial, h5⟩
    | true => exact h5 (.bl true) G H1 Ex.refl w (.bl true)
  | _ => exact h5.elim
theorem me_if (hc : PT X c (tT m tc)) (ha : PE X a (tE m ea)) (hb : PE X b (tE m eb)) : PE X (.IfExp c a b pos) (tE m (mIf tc ea eb)) := by
  refine PE.imp (pe_ifExp hc ha hb) fun σ H Q h => ?_
  refine (tY_bind (R1 := rB) r0_mono h).imp fun x H1 h2 => ?_
  obtain ⟨G, p, δ, ⟨_, d⟩, w, sl, ⟨_, r⟩, h5⟩ := h2
  have r : x = d := r
  subst r
  cases x with
  | true => exact ⟨G, p, δ, (), w, sl, trivial, h5⟩
  | false => exact ⟨G, p, δ, (), w, sl, trivial, h5⟩
theorem ma_nil : PA X [] (tAs m mNil) := by
  refine PA.imp pa_nil fun σ H Q h => ?_
  obtain ⟨G, p, δ, _, w, sl, _, h5⟩ := h
  exact h5 [] G H Ex.refl w .nil
theorem ma_cons (ha : PE X e (tE m ea)) (hr : PA X es (tAs m ra)) (hs : starEach (e :: es) X.env = (false, eval e X.env) :: starEach es X.env := by rfl) : PA X (e :: es) (tAs m (mCons ea ra)) := by
  refine PA.imp (pa_cons ha hr hs) fun σ H Q h => ?_
  refine (tY_bind (R1 := m.rE) r0_mono h).imp fun x H1 h2 => ?_
  refine (tY_bind (R1 := m.rA) (rP_mono r0_mono (rE_mono m)) h2).imp fun y H2 h4 => ?_
  obtain ⟨G, p, δ, ⟨⟨_, d⟩, ds⟩, w, sl, ⟨⟨_, r1⟩, r2⟩, h5⟩ := h4
  exact h5 (x :: y) G H2 Ex.refl w (.cons r1 r2)
end

/-! ### what a def promises -/
/-- the def computes f -/
def spM (S : Sg) (f : List D → M D) : Sp := fun vs H Q E => ∃ pen G p ds, Wd S pen G H p ∧ Reps S G pen vs ds ∧ Post S pen (fun G v d => Rep S G pen v d) G H Q E (f ds p)

/-! ### mirrors of statements -/
def sBnd {α : Type} (e : DS → M α) (k : α → SX) : SX := fun δ p => match e δ p with
  | none => none
  | some (.ok a, p') => k a δ p'
  | some (.ex c fs, p') => some (.er c fs δ, p')
def sNx : SX := fun δ p => some (.nx δ, p)
def sSeq (s t : SX) : SX := fun δ p => match s δ p with
  | some (.nx δ', p') => t δ' p'
  | r => r
def sExpr (e : EX) : SX := sBnd e fun _ => sNx
def sRet (e : EX) : SX := sBnd e fun d _ p => some (.rt d, p)
def sRetN : SX := fun _ p => some (.rt .non, p)
def sIf (c : TX) (s t : SX) : SX := sBnd c fun b => if b = true then s else t
def sSet (i : Nat) (e : EX) : SX := sBnd e fun d δ p => some (.nx (δ.set i (some (.d d))), p)
def sBreak : SX := fun δ p => some (.bk δ, p)
def sCont : SX := fun δ p => some (.ct δ, p)
def outOf : Option (Fl × Pn) → Option (Out D × Pn)
  | some (.nx _, p') => some (.ok .non, p')
  | some (.rt d, p') => some (.ok d, p')
  | some (.er c fs _, p') => some (.ex c fs, p')
  | _ => none
def dsOf (n : Nat) (ds : List D) : DS := ds.map (fun d => some (.d d)) ++ List.replicate (n - ds.length) none
/-- a def: how many parameters, how many slots, its body -/
def fnM (np n : Nat) (s : SX) : List D → M D := fun ds p => if ds.length = np then outOf (s (dsOf n ds) p) else none

/-- what is claimed behind a statement -/
def PostS (m : Am) (K : Ends) (G0 : Hp) : Option (Fl × Pn) → Prop
  | none => False
  | some (.nx δ, p) => ∀ σ G H, Sub G0 G → Wd m.S m.pen G H p → Ex m.pen m.G0 m.B G H → SlR m.S m.pen m.B G H σ δ → K.nx σ H
  | some (.rt d, p) => ∀ v G H, Sub G0 G → Wd m.S m.pen G H p → Ex m.pen m.G0 m.B G H → Rep m.S G m.pen v d → K.rt v H
  | some (.bk δ, p) => ∀ σ G H, Sub G0 G → Wd m.S m.pen G H p → Ex m.pen m.G0 m.B G H → SlR m.S m.pen m.B G H σ δ → K.bk σ H
  | some (.ct δ, p) => ∀ σ G H, Sub G0 G → Wd m.S m.pen G H p → Ex m.pen m.G0 m.B G H → SlR m.S m.pen m.B G H σ δ → K.ct σ H
  | some (.er c fs δ, p) => ∀ d σ G H, Sub G0 G → Wd m.S m.pen G H p → Ex m.pen m.G0 m.B G H → SlR m.S m.pen m.B G H σ δ → RepX m.S G m.pen d c fs → m.W (.ref (m.S.ca c)) d σ H
theorem PostS.mono {m : Am} {K : Ends} {G G1 : Hp} {r : Option (Fl × Pn)} (s : Sub G G1) (h : PostS m K G r) : PostS m K G1 r := by
  rcases r with _ | ⟨o, p1⟩
  · exact h
  · cases o with
    | nx δ' => exact fun σ G2 H2 s2 => h σ G2 H2 (s.trans s2)
    | rt d => exact fun σ G2 H2 s2 => h σ G2 H2 (s.trans s2)
    | bk δ' => exact fun σ G2 H2 s2 => h σ G2 H2 (s.trans s2)
    | ct δ' => exact fun σ G2 H2 s2 => h σ G2 H2 (s.trans s2)
    | er c fs δ' => exact fun d σ G2 H2 s2 => h d σ G2 H2 (s.trans s2)
def tS (m : Am) (s : SX) : TS := fun K σ H => ∃ G p δ, Wd m.S m.pen G H p ∧ Ex m.pen m.G0 m.B G H ∧ SlR m.S m.pen m.B G H σ δ ∧ PostS m K G (s δ p)

section
variable {X : Cx} {m : Am} {st : Stmt} {rest : List Stmt} {e : Expr} {s t : SX} {ea : EX} {pos : Pos}
theorem mss_nil : PSs X [] (tS m sNx) := PSs.imp pss_nil fun K σ H ⟨G, p, δ, w, x, sl, h⟩ => h σ G H (Sub.refl _) w x sl
theorem ms_pass : PS X (.Pass pos) (tS m sNx) := PS.imp ps_pass fun K σ H ⟨G, p, δ, w, x, sl, h⟩ => h σ G H (Sub.refl _) w x sl
theorem ms_break : PS X (.Break pos) (tS m sBreak) := PS.imp ps_break fun K σ H ⟨G, p, δ, w, x, sl, h⟩ => h σ G H (Sub.refl _) w x sl
theorem ms_cont : PS X (.Continue pos) (tS m sCont) := PS.imp ps_continue fun K σ H ⟨G, p, δ, w, x, sl, h⟩ => h σ G H (Sub.refl _) w x sl
theorem mss_cons (h1 : PS X st (tS m s)) (h2 : PSs X rest (tS m t)) : PSs X (st :: rest) (tS m (sSeq s t)) := by
  refine PSs.imp (pss_cons h1 h2) fun K σ H ⟨G, p, δ, w, x, sl, h⟩ => ?_
  refine ⟨G, p, δ, w, x, sl, ?_⟩
  dsimp only [sSeq] at h
  rcases he : s δ p with _ | ⟨o, p1⟩
  · rw [he] at h; exact h
  · rw [he] at h
    cases o with
    | nx δ' => exact fun σ' G' H' s' w' x' sl' => ⟨G', p1, δ', w', x', sl', h.mono s'⟩
    | rt d => exact h
    | bk δ' => exact h
    | ct δ' => exact h
    | er c fs δ' => exact h
theorem mss_one (h1 : PS X st (tS m s)) : PSs X [st] (tS m s) := pss_one h1
/-- first an expression -/
theorem tS_bind {α β : Type} {R : Rl β α} {f : DS → M α} {k : α → SX} {K : Ends} {σ : St} {H : Hp} (h : tS m (sBnd f k) K σ H) :
    tY m r0 R () (fun _ => f) σ H (fun b H1 => ∃ a G p δ, Wd m.S m.pen G H1 p ∧ Ex m.pen m.G0 m.B G H1 ∧ SlR m.S m.pen m.B G H1 σ δ ∧ R G b a ∧ PostS m K G (k a δ p)) := by
  obtain ⟨G, p, δ, w, x, sl, h⟩ := h
  refine ⟨G, p, δ, (), w, sl, trivial, ?_⟩
  dsimp only [sBnd] at h ⊢
  rcases he : f δ p with _ | ⟨o, p1⟩
  · rw [he] at h; exact h
  · rw [he] at h
    cases o with
    | ok a => exact fun v G' H' x' w' r => ⟨a, G', p1, δ, w', x.trans x', sl.ex x', r, h.mono x'.sub⟩
    | ex c fs => exact fun d G' H' x' w' r => h d σ G' H' x'.sub w' (x.trans x') (sl.ex x') r
theorem ms_expr (he : PE X e (tE m ea)) (hs : swapsWith e none pos.line X.env = pure false := by rfl) : PS X (.Expr e pos) (tS m (sExpr ea)) := by
  refine PS.imp (ps_expr he hs) fun K σ H h => ?_
  exact (tS_bind (R := m.rE) h).imp fun v H1 ⟨a, G, p, δ, w, x, sl, r, q⟩ => q σ G H1 (Sub.refl _) w x sl
theorem ms_ret (he : PE X e (tE m ea)) : PS X (.Return (some e) pos) (tS m (sRet ea)) := by
  refine PS.imp (ps_ret he) fun K σ H h => ?_
  exact (tS_bind (R := m.rE) h).imp fun v H1 ⟨a, G, p, δ, w, x, sl, r, q⟩ => q v G H1 (Sub.refl _) w x r
theorem ms_retN : PS X (.Return none pos) (tS m sRetN) := PS.imp ps_retN fun K σ H ⟨G, p, δ, w, x, sl, h⟩ => h .non G H (Sub.refl _) w x .non
theorem ms_if {c : Expr} {a b : List Stmt} {tc : TX} (hc : PT X c (tT m tc)) (ha : PSs X a (tS m s)) (hb : PSs X b (tS m t)) : PS X (.If c a b pos) (tS m (sIf tc s t)) := by
  refine PS.imp (ps_if hc ha hb) fun K σ H h => ?_
  refine (tS_bind (R := rB) h).imp fun v H1 ⟨a, G, p, δ, w, x, sl, r, q⟩ => ?_
  have r : v = a := r
  subst r
  cases v with
  | true => exact ⟨G, p, δ, w, x, sl, q⟩
  | false => exact ⟨G, p, δ, w, x, sl, q⟩
theorem SlR.set {S : Sg} {pen : Addr} {B G H : Hp} {σ : St} {δ : DS} {i : Nat} {v : V} {d : D} (sl : SlR S pen B G H σ δ) (r : Rep S G pen v d) : SlR S pen B G H (σ.set i (some v)) (δ.set i (some (.d d))) := by
  have old : ∀ (j : Nat) s, (∀ x, s ≠ .d x) → (δ.set i (some (Sl.d d)))[j]? = some (some s) → δ[j]? = some (some s) ∧ j ≠ i := fun j s ns e => by
    by_cases hj : i = j
    · subst hj
      rw [List.getElem?_set] at e
      simp only [if_true] at e
      split at e
      · exact absurd (Option.some.inj (Option.some.inj e)).symm (ns d)
      · cases e
    · rw [List.getElem?_set_ne hj] at e
      exact ⟨e, Ne.symm hj⟩
  have same : ∀ (j : Nat), j ≠ i → (σ.set i (some v))[j]? = σ[j]? := fun j hj => List.getElem?_set_ne (Ne.symm hj)
  refine ⟨by simp [sl.len], fun j x e => ?_, fun j xs e => ?_, fun j xs e => ?_, fun j c xs e => ?_, fun j k s t l e1 e2 n1 n2 f1 f2 => ?_⟩
  · by_cases hj : i = j
    · subst hj
      rw [List.getElem?_set] at e
      simp only [if_true] at e
      split at e
      · rename_i hlt
        have := Option.some.inj (Option.some.inj e)
        cases this
        exact ⟨v, by rw [List.getElem?_set_self (by rw [sl.len]; exact hlt)], r⟩
      · cases e
    · rw [List.getElem?_set_ne hj] at e
      rw [List.getElem?_set_ne hj]
      exact sl.val j x e
  · obtain ⟨e', hj⟩ := old j _ (by intro _ z; cases z) e
    rw [same j hj]; exact sl.ml j xs e'
  · obtain ⟨e', hj⟩ := old j _ (by intro _ z; cases z) e
    rw [same j hj]; exact sl.md j xs e'
  · obtain ⟨e', hj⟩ := old j _ (by intro _ z; cases z) e
    rw [same j hj]; exact sl.mo j c xs e'
  · obtain ⟨e1', hj⟩ := old j _ n1 e1
    obtain ⟨e2', hk⟩ := old k _ n2 e2
    rw [same j hj] at f1
    rw [same k hk] at f2
    exact sl.inj j k s t l e1' e2' n1 n2 f1 f2
theorem ms_set {i : Nat} {x : Str} {pos' : Pos} (hN : X.N.Nodup) (hi : X.N[i]? = some x) (hx : Loc X.env.scope x) (he : PE X e (tE m ea)) (hs : swapsWith e (some (.Name x pos')) pos.line X.env = pure false := by rfl) (hf : X.fn x = true ∨ X.env.scope.names.lookup x = some .local := by first | exact .inl rfl | exact .inr rfl | assumption) :
    PS X (.Assign [.Name x pos'] e pos) (tS m (sSet i ea)) := by
  refine PS.imp (ps_set hN hi hx he hs hf) fun K σ H h => ?_
  exact (tS_bind (R := m.rE) h).imp fun v H1 ⟨a, G, p, δ, w, x, sl, r, q⟩ => q _ G H1 (Sub.refl _) w x (sl.set r)
theorem SlR.start {S : Sg} {pen : Addr} {B G H : Hp} {N : List Str} {vs : List V} {ds : List D} (r : Reps S G pen vs ds) : SlR S pen B G H (start N vs) (dsOf N.length ds) := by
  have hl := r.length
  have look : ∀ (i : Nat) s, (dsOf N.length ds)[i]? = some (some s) → ∃ d, s = .d d ∧ ds[i]? = some d ∧ i < ds.length := fun i s e => by
    unfold dsOf at e
    by_cases hi : i < ds.length
    · rw [List.getElem?_append_left (by simpa using hi), List.getElem?_map] at e
      cases q : ds[i]? with
      | none => rw [q] at e; cases e
      | some d => rw [q] at e; exact ⟨d, (Option.some.inj (Option.some.inj e)).symm, rfl, hi⟩
    · rw [List.getElem?_append_right (by simpa using hi), List.getElem?_replicate] at e
      split at e
      · cases e
      · cases e
  refine ⟨by simp [L2.start, dsOf, hl], fun i x e => ?_, fun i xs e => ?_, fun i xs e => ?_, fun i c xs e => ?_, fun i j s t l e1 _ n1 => ?_⟩
  · obtain ⟨d, q1, q2, hi⟩ := look i _ e
    cases q1
    obtain ⟨v, e1, rv⟩ := r.get q2
    refine ⟨v, ?_, rv⟩
    unfold L2.start
    rw [List.getElem?_append_left (by simp [hl]; exact hi), List.getElem?_map, e1]
    rfl
  · obtain ⟨d, q, _⟩ := look i _ e; cases q
  · obtain ⟨d, q, _⟩ := look i _ e; cases q
  · obtain ⟨d, q, _⟩ := look i _ e; cases q
  · obtain ⟨d, q, _⟩ := look i _ e1; exact absurd q (n1 d)
/-- a def keeps the promise sp wherever no repr is under way -/
structure FnG (P : Program) (w : World) (K : PySem.W.Frag) (mg : Str → Option Value) (base : Heap) (k : Nat) (f : Addr) (fd : FuncData) (ps : List Str) (sp : Sp) : Prop where
  len : ∀ vs H Q E, sp vs H Q E → vs.length = ps.length
  run : ∀ (A : Around) (outer : List Env) (s : Shared) (H : Hp) (args : Args) (us : List Value) (vs : List V) (Q : VK) (E : XK), A.guards = some [] → Room k A → Env0 P w K mg base A outer s H → BindsTo s fd args (ps.zip us) → Vals vs us → sp vs H Q E →
    codeAny (model P w) A (.call (.ref f) args) (CR (L2.CX P w) outer P w H s Q E) s
/-- a def of the text: where it stands, its defaults -/
structure FunG (K : PySem.W.Frag) (x qual : Str) (st : Stmt) (f : Addr) (fd : FuncData) : Prop where
  ex : ∃ (oc : Value) (od : Option Addr) (dV kV doc pm : Value) (an : Option Addr) (cdv ct : Value) (osl : Array (Option Value)),
    fd = PySem.W.fnOf x qual (defArgs st) (defBody st) (defScope st) dV kV doc pm an cdv ct ∧ K.lookup f = some ⟨oc, od, .func fd, osl⟩ ∧ PySem.W.codeIn K cdv qual = true
/-- THE RULE for a def -/
theorem fn_okM {P : Program} {w : World} {K : PySem.W.Frag} {mg : Str → Option Value} {base : Heap} {x qual : Str} {st : Stmt} {f : Addr} {fd : FuncData} {N ps : List Str} {k : Nat} {S : Sg} {body : SX} (F : FunG K x qual st f fd) (Sc : FnScope N ps (defScope st))
    (hb : ∀ (cdv : Value) (A : Around) (outer : List Env) (s : Shared) (pen : Addr) (G0 H : Hp) (E : XK), fd.code = cdv → A.guards = some [] → Room k (A.deeper (PyProof.Rows.envOfC qual (defScope st) s.heap.objs.size f cdv)) →
      PSs (cxOf (L2.CX P w) P w K mg base N qual (defScope st) f cdv A outer s H E) (defBody st) (tS ⟨S, pen, G0, H, fun c d _ H' => E c d H'⟩ body)) :
    FnG P w K mg base (k + 1) f fd ps (spM S (fnM ps.length N.length body)) := by
  have len : ∀ vs H Q E, spM S (fnM ps.length N.length body) vs H Q E → vs.length = ps.length := fun vs H Q E ⟨pen, G, p, ds, _, r, h⟩ => by
    rw [r.length]
    dsimp only [fnM] at h
    split at h
    · assumption
    · exact h.elim
  refine ⟨len, fun A outer s H args us vs Q E hg hr e0 hbd r sp => ?_⟩
  obtain ⟨oc, od, dV, kV, doc, pm, an, cdv, ct, osl, rfl, lk, hcd⟩ := F.ex
  refine LamX.run_ofS lk hcd Sc hr e0 hbd r (len vs H Q E sp) fun hr' => ?_
  obtain ⟨pen, G, p, ds, wd, rr, h⟩ := sp
  refine ⟨_, hb cdv A outer s pen G H E rfl hg hr', ?_⟩
  refine ⟨G, p, dsOf N.length ds, wd, Ex.refl, SlR.start rr, ?_⟩
  dsimp only [fnM] at h
  split at h
  · rcases he : body (dsOf N.length ds) p with _ | ⟨o, p1⟩
    · rw [he] at h; exact h
    · rw [he] at h
      cases o with
      | nx δ' => exact fun σ' G' H' _ w' x' sl' => h .non G' H' x' w' .non
      | rt d => exact fun v G' H' _ w' x' r' => h v G' H' x' w' r'
      | bk δ' => exact h.elim
      | ct δ' => exact h.elim
      | er c fs δ' => exact fun d σ' G' H' _ w' x' sl' r' => h d G' H' x' w' r'
  · exact h.elim
end
end ME

namespace ME
open PySem PySem.Spec L2

/-! ### which argument goes to which parameter -/
inductive Src where
  | p (i : Nat)
  | k (i : Nat)
  | d (i : Nat)
def pick {α : Type} (us ds ws : List α) : List Src → List α
  | [] => []
  | .p i :: r => match us[i]? with | some x => x :: pick us ds ws r | none => pick us ds ws r
  | .k i :: r => match ws[i]? with | some x => x :: pick us ds ws r | none => pick us ds ws r
  | .d i :: r => match ds[i]? with | some x => x :: pick us ds ws r | none => pick us ds ws r
theorem vals_pick {vs ds zs : List V} {us its ws : List Value} (a : Vals vs us) (b : Vals ds its) (c : Vals zs ws) : ∀ l : List Src, Vals (pick vs ds zs l) (pick us its ws l)
  | [] => .nil
  | .p i :: r => by
    unfold pick
    cases e : vs[i]? with
    | none => rw [a.none_of e]; exact vals_pick a b c r
    | some x => obtain ⟨u, e1, e2⟩ := a.get e; rw [e1]; exact .cons e2 (vals_pick a b c r)
  | .k i :: r => by
    unfold pick
    cases e : zs[i]? with
    | none => rw [c.none_of e]; exact vals_pick a b c r
    | some x => obtain ⟨u, e1, e2⟩ := c.get e; rw [e1]; exact .cons e2 (vals_pick a b c r)
  | .d i :: r => by
    unfold pick
    cases e : ds[i]? with
    | none => rw [b.none_of e]; exact vals_pick a b c r
    | some x => obtain ⟨u, e1, e2⟩ := b.get e; rw [e1]; exact .cons e2 (vals_pick a b c r)
section
variable {S : Sg} {G : Hp} {pen : Addr}
theorem Reps.none_of {vs : List V} {ds : List D} {i : Nat} (r : Reps S G pen vs ds) (e : vs[i]? = none) : ds[i]? = none := by
  have h2 : vs.length ≤ i := List.getElem?_eq_none_iff.mp e
  exact List.getElem?_eq_none_iff.mpr (by rw [← r.length]; exact h2)
theorem reps_pick {vs ds zs : List V} {us its ws : List D} (a : Reps S G pen vs us) (b : Reps S G pen ds its) (c : Reps S G pen zs ws) : ∀ l : List Src, Reps S G pen (pick vs ds zs l) (pick us its ws l)
  | [] => .nil
  | .p i :: r => by
    unfold pick
    cases e : vs[i]? with
    | none => rw [a.none_of e]; exact reps_pick a b c r
    | some x => obtain ⟨u, e1, e2⟩ := a.getV e; rw [e1]; exact .cons e2 (reps_pick a b c r)
  | .k i :: r => by
    unfold pick
    cases e : zs[i]? with
    | none => rw [c.none_of e]; exact reps_pick a b c r
    | some x => obtain ⟨u, e1, e2⟩ := c.getV e; rw [e1]; exact .cons e2 (reps_pick a b c r)
  | .d i :: r => by
    unfold pick
    cases e : ds[i]? with
    | none => rw [b.none_of e]; exact reps_pick a b c r
    | some x => obtain ⟨u, e1, e2⟩ := b.getV e; rw [e1]; exact .cons e2 (reps_pick a b c r)
end
/-- how a def's parameters are bound: n positional values, keywords ks, the defaults dvs -/
structure Bd (K : PySem.W.Frag) (fd : FuncData) (ps : List Str) (n : Nat) (ks : List Str) (dvs : List V) (l : List Src) : Prop where
  ex : ∃ its : List Value, Vals dvs its ∧ ∀ (s : Shared) (us ws : List Value), K.In s.heap → us.length = n → ws.length = ks.length → BindsTo s fd ⟨us, ks.zip ws⟩ (ps.zip (pick us its ws l))

/-! ### the arguments of a call -/
abbrev TK := St → Hp → (List V → List V → Hp → Prop) → Prop
structure PAK (X : Cx) (es : List Expr) (kws : List Keyword) (n : Nat) (ks : List Str) (t : TK) : Prop where
  run : ∀ (pos : Pos) (f : Value) (first : List Value) (pins : List (Addr × Obj)) (s : Shared) (σ : St) (H : Hp) (R : List V → List V → Hp → Prop) (Q : Value → Shared → Prop), PySem.W.keepIn X.K f = true → Inv X pins σ H s → t σ H R →
    (∀ us ws s2 vs zs H2, Inv X pins σ H2 s2 → Vals vs us → Vals zs ws → us.length = n → ws.length = ks.length → R vs zs H2 → wpAny (model X.prog X.w) X.A (call f (first ++ us) (ks.zip ws)) Q X.xe s2) →
    wpAny (model X.prog X.w) X.A (callWith pos f first (backTo pos (starEach es X.env)) (backToKw pos (keywordEach kws X.env))) Q X.xe s
def tAK (m : Am) (n k : Nat) (a b : AX) : TK := fun σ H R => tY m r0 (rP m.rA m.rA) () (fun _ δ => (a δ).bnd fun x => (b δ).bnd fun y => if x.length = n ∧ y.length = k then M.ret (x, y) else M.stuck) σ H (fun v H1 => R v.1 v.2 H1)
section
variable {X : Cx} {m : Am} {e : Expr} {es : List Expr} {kws : List Keyword} {ks : List Str} {ra rk : AX} {n : Nat}
/-- keywords' values -/
theorem mk_nil : PK X [] (tAs m mNil) := by
  have h0 := pk_nil (X := X)
  refine ⟨fun pos pins s σ H Q I h => h0.run pos pins s σ H Q I ?_⟩
  obtain ⟨G, p, δ, _, w, sl, _, h5⟩ := h
  exact h5 [] G H Ex.refl w .nil
theorem mk_cons {nm : Option Str} {kpos : Pos} {ea : EX} (ha : PE X e (tE m ea)) (hr : PK X kws (tAs m rk)) : PK X (⟨nm, e, kpos⟩ :: kws) (tAs m (mCons ea rk)) := by
  have h0 := pk_cons (nm := nm) (kpos := kpos) ha hr
  refine ⟨fun pos pins s σ H Q I h => h0.run pos pins s σ H Q I ?_⟩
  refine (tY_bind (R1 := m.rE) r0_mono h).imp fun x H1 h2 => ?_
  refine (tY_bind (R1 := m.rA) (rP_mono r0_mono (rE_mono m)) h2).imp fun y H2 h4 => ?_
  obtain ⟨G, p, δ, ⟨⟨_, d⟩, ds⟩, w, sl, ⟨⟨_, r1⟩, r2⟩, h5⟩ := h4
  exact h5 (x :: y) G H2 Ex.refl w (.cons r1 r2)
/-- the end of both lists -/
theorem tAK_end {k : Nat} {σ : St} {H : Hp} {R : List V → List V → Hp → Prop} (h : tAK m n k ra rk σ H R) :
    tAs m ra σ H (fun vs H1 => tAs m rk σ H1 fun zs H2 => vs.length = n ∧ zs.length = k ∧ R vs zs H2) := by
  refine (tY_bind (R1 := m.rA) r0_mono h).imp fun x H1 h2 => ?_
  refine (tY_bind (R1 := m.rA) (rP_mono r0_mono (rA_mono m)) h2).imp fun y H2 h4 => ?_
  obtain ⟨G, p, δ, ⟨⟨_, ds⟩, es⟩, w, sl, ⟨⟨_, r1⟩, r2⟩, h5⟩ := h4
  have r1 : Reps m.S G m.pen x ds := r1
  have r2 : Reps m.S G m.pen y es := r2
  dsimp only at h5
  split at h5
  · rename_i hc
    exact ⟨by rw [r1.length]; exact hc.1, by rw [r2.length]; exact hc.2, h5 (x, y) G H2 Ex.refl w ⟨r1, r2⟩⟩
  · exact h5.elim
theorem pak_pos (ha : PA X (e :: es) (tAs m ra)) (he : starEach (e :: es) X.env = (false, eval e X.env) :: starEach es X.env := by rfl) (hpl : ∀ pos, (backTo pos (starEach es X.env)).any (·.1) = false := by intro _; rfl) : PAK X (e :: es) [] n [] (tAK m n 0 ra mNil) := by
  refine ⟨fun pos f first pins s σ H R Q hk I h c => ?_⟩
  refine PySem.W.callWith_K (h₀ := X.base) I.ok.mod.kin hk (thn (ha.run pos pins s σ H _ I (tAK_end h)) fun us s1 ⟨vs, H1, I1, r, q⟩ => ⟨I1.kIn, ?_⟩) he (hpl pos)
  obtain ⟨G, p, δ, _, w, sl, _, h5⟩ := q
  obtain ⟨l1, _, h6⟩ := h5 [] G H1 Ex.refl w .nil
  exact c us [] s1 vs [] H1 I1 r .nil (by rw [← r.length]; exact l1) rfl h6
theorem pak_none : PAK X [] [] 0 [] (tAK m 0 0 mNil mNil) := by
  refine ⟨fun pos f first pins s σ H R Q hk I h c => ?_⟩
  obtain ⟨G, p, δ, _, w, sl, _, h5⟩ := h
  exact PySem.W.callWith_K0 I.kIn hk (c [] [] s [] [] H I .nil .nil rfl rfl (h5 ([], []) G H Ex.refl w ⟨.nil, .nil⟩))
theorem pak_both (ha : PA X (e :: es) (tAs m ra)) (hkw : PK X kws (tAs m rk)) (hall : ∀ pos, (backToKw pos (keywordEach kws X.env)).all (·.1.isSome) = true := by intro _; rfl) (hks : ∀ pos, (backToKw pos (keywordEach kws X.env)).filterMap (·.1) = ks := by intro _; rfl)
    (he : starEach (e :: es) X.env = (false, eval e X.env) :: starEach es X.env := by rfl)
    (hpl : ∀ pos, ((backTo pos (starEach (e :: es) X.env)).any (·.1) || (backToKw pos (keywordEach kws X.env)).any (·.1.isNone)) = false := by intro _; rfl) : PAK X (e :: es) kws n ks (tAK m n ks.length ra rk) := by
  refine ⟨fun pos f first pins s σ H R Q hk I h c => ?_⟩
  refine PySem.W.callWith_KW (h₀ := X.base) I.ok.mod.kin hk (hall pos) (thn (ha.run pos pins s σ H _ I (tAK_end h)) fun us s1 ⟨vs, H1, I1, r, q⟩ => ?_) (hpl pos) he
  refine thn (hkw.run pos pins s1 σ H1 _ I1 q) fun ws s2 ⟨zs, H2, I2, rz, l1, l2, q2⟩ => ⟨I2.kIn, ?_⟩
  rw [hks pos]
  exact c us ws s2 vs zs H2 I2 r rz (by rw [← r.length]; exact l1) (by rw [← rz.length]; exact l2) q2
theorem pak_kw (hkw : PK X kws (tAs m rk)) (hall : ∀ pos, (backToKw pos (keywordEach kws X.env)).all (·.1.isSome) = true := by intro _; rfl) (hks : ∀ pos, (backToKw pos (keywordEach kws X.env)).filterMap (·.1) = ks := by intro _; rfl)
    (hpl : ∀ pos, ((backTo pos (starEach [] X.env)).any (·.1) || (backToKw pos (keywordEach kws X.env)).any (·.1.isNone)) = false := by intro _; rfl) : PAK X [] kws 0 ks (tAK m 0 ks.length mNil rk) := by
  refine ⟨fun pos f first pins s σ H R Q hk I h c => ?_⟩
  have h' := tAK_end h
  obtain ⟨G, p, δ, _, w, sl, _, h5⟩ := h'
  have h6 := h5 [] G H Ex.refl w .nil
  refine PySem.W.callWith_KW0 (h₀ := X.base) I.ok.mod.kin hk (hall pos) (thn (hkw.run pos pins s σ H _ I h6) fun ws s2 ⟨zs, H2, I2, rz, l1, l2, q2⟩ => ⟨I2.kIn, ?_⟩) (hpl pos)
  rw [hks pos]
  exact c [] ws s2 [] zs H2 I2 .nil rz rfl (by rw [← rz.length]; exact l2) q2
end

/-! ### a def of the text called -/
def mCallK (f : List D → M D) (n k : Nat) (dd : List D) (l : List Src) (a b : AX) : EX := fun δ => (a δ).bnd fun x => (b δ).bnd fun y => if x.length = n ∧ y.length = k then f (pick x dd y l) else M.stuck
section
variable {X : Cx} {m : Am} {e : Expr} {es : List Expr} {kws : List Keyword} {ks : List Str} {ra rk : AX} {n k : Nat} {pos : Pos}
theorem tAK_of {j : Nat} {f : List D → M D} {dd : List D} {l : List Src} {σ : St} {H : Hp} {Q : VK} (h : tE m (mCallK f n j dd l ra rk) σ H Q) :
    tAK m n j ra rk σ H (fun vs zs H1 => ∃ G p δ ds es, Wd m.S m.pen G H1 p ∧ SlR m.S m.pen m.B G H1 σ δ ∧ Reps m.S G m.pen vs ds ∧ Reps m.S G m.pen zs es ∧ Post m.S m.pen m.rE G H1 Q (fun c d H' => m.W c d σ H') (f (pick ds dd es l) p)) := by
  have h' : tY m r0 m.rE () (fun _ δ => ((ra δ).bnd fun x => (rk δ).bnd fun y => if x.length = n ∧ y.length = j then M.ret (x, y) else M.stuck).bnd fun z => f (pick z.1 dd z.2 l)) σ H Q := by
    obtain ⟨G, p, δ, u, w, sl, r, h⟩ := h
    refine ⟨G, p, δ, u, w, sl, r, ?_⟩
    have e : mCallK f n j dd l ra rk δ = ((ra δ).bnd fun x => (rk δ).bnd fun y => if x.length = n ∧ y.length = j then M.ret (x, y) else M.stuck).bnd fun z => f (pick z.1 dd z.2 l) := by
      unfold mCallK
      rw [M.assoc]
      congr 1; funext x
      rw [M.assoc]
      congr 1; funext y
      split <;> rfl
    dsimp only at h ⊢
    rw [← e]; exact h
  refine (tY_bind (R1 := rP m.rA m.rA) r0_mono h').imp fun v H1 h2 => ?_
  obtain ⟨G, p, δ, ⟨_, ds, es⟩, w, sl, ⟨_, r1, r2⟩, h5⟩ := h2
  exact ⟨G, p, δ, ds, es, w, sl, r1, r2, h5⟩
theorem me_fn {f : Addr} {fd : FuncData} {ps : List Str} {mf : List D → M D} {dvs : List V} {dd : List D} {l : List Src} {x : Str} {p : Pos}
    (F : FnG X.prog X.w X.K X.mg X.base k f fd ps (spM m.S mf)) (tk : Takes X m.W) (hq : X.A.guards = some []) (hr : Room k X.A) (hg : Gl X x) (hm : X.mg x = some (.ref f)) (hk : PySem.W.keepIn X.K (.ref f) = true) (hb : Bd X.K fd ps n ks dvs l)
    (hdd : ∀ G pen, Reps m.S G pen dvs dd) (ha : PAK X es kws n ks (tAK m n ks.length ra rk)) (hdb : (x == ("__debug__" : Str)) = false := by decide) :
    PE X (.Call (.Name x p) es kws pos) (tE m (mCallK mf n ks.length dd l ra rk)) := by
  refine ⟨fun pins s σ H Q I h => ?_⟩
  refine wpAny_Call_Name_kw (ld_glob I hg hm ?_ hdb)
  refine ha.run pos (.ref f) [] pins s σ H _ _ hk I (tAK_of h) fun us ws s2 vs zs H2 I2 r rz l1 l2 ⟨G, p, δ, ds, es, w, sl, r1, r2, h5⟩ => ?_
  obtain ⟨its, vd, bd⟩ := hb.ex
  have sp : spM m.S mf (pick vs dvs zs l) H2 Q (WE m.W σ) := ⟨m.pen, G, p, pick ds dd es l, w, reps_pick r1 (hdd G m.pen) r2 l, h5⟩
  refine wpAny_call (codeAny_mono (F.run X.A X.stack s2 H2 ⟨us, ks.zip ws⟩ (pick us its ws l) (pick vs dvs zs l) Q (WE m.W σ) hq hr I2.env0 (bd s2 us ws I2.kIn l1 l2) (vals_pick r vd rz l) sp) fun r s' hq => ?_)
  cases r with
  | error e => exact passAt tk σ pins H2 s2 e s' I2 hq
  | ok fl =>
    cases fl with
    | ret u => exact I2.after hq
    | next => exact False.elim hq
    | brk => exact False.elim hq
    | cont => exact False.elim hq
end
end ME

/-! An own exception class over ValueError, called with keywords too: BaseException.__new__, then the class's own __init__. -/
namespace PySem
namespace MeX
open PySem.W PySem.Calls PyProof.Rows PySem.HandSPX PySem.Spec
section
variable {prog : Program} {w : World} {A : Around} {E : Value → Shared → Prop} {R : Result → Shared → Prop} {h : Heap} {g : Array GenState} {d : Drawn} {t : Nat} {os : OsState}
variable {nm q : Str} {C N : Addr} {bs bm bmB : List Value} {hdct : Bool} {sn : List Str} {sub : List Value} {ab : Bool} {col : Option Bool} {dd : Option Addr} {k0 k1 k2 k3 k5 : Option Value} {B newId initId : String}
theorem look_new (F : ExcBaseFacts B newId initId bmB) (hT : ∀ X : String, bm.contains (.type X) = bmB.contains (.type X)) {rest : List Value} {kw : List (Str × Value)} {M : Model} {Q : Unit → Shared → Prop}
    (hC : h.get? C = some (excClassObj nm q C N bs bm hdct sn sub ab col dd k0 k1 k2 k3 k5 newId)) (hq : Q () ⟨h, g, d, t, os⟩) : wpAny M A (checkBuiltinCall newId ⟨.ref C :: rest, kw⟩) Q E ⟨h, g, d, t, os⟩ := by
  have has : (Value.ref C :: bm).contains (.type B) = true := by rw [List.contains_cons, hT, F.hasB, Bool.or_true]
  have ns := F.noStar
  simp only [checkBuiltinCall, F.newKind, F.newSplit, F.newRow]
  repeat (first | refine wpAny_loadPart_at hC ?_ | (refine wpAny_isSubtype_exc hC ?_; rw [has]) | refine wpAny_staticBase_exc hC ?_ | refine wpAny_madeBy_exc hC ?_ | simp only [bne_self_eq_false, Bool.false_eq_true, if_false] | wp_step)
  exact hq
theorem new_kw (F : ExcBaseFacts B newId initId bmB) (hT : ∀ X : String, bm.contains (.type X) = bmB.contains (.type X)) {rest : List Value} {kw : List (Str × Value)}
    (hC : h.get? C = some (excClassObj nm q C N bs bm hdct sn sub ab col dd k0 k1 k2 k3 k5 newId))
    (hq : R (.ok (.ret (.ref (h.objs.size + 1)))) ⟨(h.push (kdv_tup rest)).push (excO C h.objs.size), g, d, t, os⟩) (hrest : rest.length ≤ sizeLine) :
    codeAny (model prog w) A (.builtin newId ⟨.ref C :: rest, kw⟩) R ⟨h, g, d, t, os⟩ := by
  have he := F.ends
  have c1 : (Value.ref C :: bm).contains (.type B) = true := by rw [List.contains_cons, hT, F.hasB, Bool.or_true]
  have c2 : (Value.ref C :: bm).contains (.type "AttributeError") = false := by rw [List.contains_cons, hT, F.noAttr]; rfl
  have c3 : (Value.ref C :: bm).contains (.type "NameError") = false := by rw [List.contains_cons, hT, F.noName]; rfl
  refine codeAny_builtinAt F.entry ?_
  unfold Builtin.«BaseException.__new__»
  refine wpAt_bind ?_
  show wpAt _ _ _ (stack >>= _) _ _ _
  refine wpAt_bind (wpAt_stack fun p below => wpAt_of_wpAny ?_)
  wp_walk
  refine wpAt_of_wpAny ?_
  rw [F.owner]
  repeat (first | with_reducible refine wpAny_madeHere_exc F.canon hC ?_ | with_reducible refine wpAny_loadPart_at hC ?_ | (with_reducible refine wpAny_isSubtype_exc hC ?_; first | rw [c1] | rw [c2] | rw [c3]) | wp_step)
  show R _ _
  rw [Heap.size_push]
  exact hq
theorem type_kw (F : ExcBaseFacts B newId initId bmB) (hT : ∀ X : String, bm.contains (.type X) = bmB.contains (.type X)) {rest : List Value} {kw : List (Str × Value)} {fI : Addr} {Q : Fin → Shared → Prop}
    (hC : h.get? C = some (excClassObj nm q C N bs bm hdct sn sub ab col dd k0 k1 k2 k3 k5 newId))
    (hi : W.Looks (model prog w) h (typeLookup (.ref C) "__init__") (some (.ref fI))) (hb : ∀ self, W.Looks (model prog w) h (bindSpecial (.ref fI) self) (.ref fI, [self])) (hrest : rest.length ≤ sizeLine)
    (hq : codeAny (model prog w) A (.call (.ref fI) ⟨.ref (h.objs.size + 1) :: rest, kw⟩)
      (fun r s' => match r with | .ok (.ret v) => v = .none ∧ Q (.done (.ret (.ref (h.objs.size + 1)))) s' | .ok _ => False | .error e => E e s')
      ⟨(h.push (W.kdv_tup rest)).push (excO C h.objs.size), g, d, t, os⟩) :
    wpAny (model prog w) A (Builtin.«type.__call__» ⟨.ref C :: rest, kw⟩) Q E ⟨h, g, d, t, os⟩ := by
  repeat (first | with_reducible refine wpAny_loadPart_at hC ?_ | with_reducible refine wpAny_madeBy_exc hC ?_ | wp_step)
  refine codeAny_call_builtin_code (Code.quiet_builtin _ F.quiet) (look_new F hT hC ?_)
  refine new_kw F hT hC ?_ hrest
  show wpAny _ _ _ _ _ _
  have k : ∀ b o, h.get? b = some o → ((h.push (W.kdv_tup rest)).push (excO C h.objs.size)).get? b = some o := fun b o e => Heap.get?_push_of_some _ (Heap.get?_push_of_some _ e)
  have hC1 := k _ _ hC
  have hget : ((h.push (W.kdv_tup rest)).push (excO C h.objs.size)).get? (h.objs.size + 1) = some (excO C h.objs.size) := by heap_get
  have hcC : (Value.ref C :: bm).contains (.ref C) = true := by simp
  have i1 := hi.keeps k
  have b1 := (hb (.ref (h.objs.size + 1))).keeps k
  unfold isInstance
  repeat (first | with_reducible refine wpAny_loadPart_at hget ?_ | (with_reducible refine wpAny_isSubtype_exc hC1 ?_; rw [hcC]) | wp_step)
  show wpAny _ _ (typeLookup (.ref C) _) _ _ _
  refine i1.at ?_
  refine wpAny_holding (wpAny_bind (b1.at ?_))
  refine wpAny_bind (wpAny_call (codeAny_mono hq fun r s' z => ?_))
  rcases r with e | (v | _ | _ | _) <;> first | exact z | exact z.elim | skip
  obtain ⟨rfl, z⟩ := z
  first
    | exact wpAny_pure (wpAny_pure z)
    | (wp_walk; exact z)
theorem look_type {M : Model} {rest : List Value} {kw : List (Str × Value)} {Q : Unit → Shared → Prop} (hC : h.get? C = some (excClassObj nm q C N bs bm hdct sn sub ab col dd k0 k1 k2 k3 k5 newId))
    (hq : Q () ⟨h, g, d, t, os⟩) : wpAny M A (checkBuiltinCall "type.__call__" ⟨.ref C :: rest, kw⟩) Q E ⟨h, g, d, t, os⟩ := by
  have f3 := tc_sub
  have ty : (⟨h, g, d, t, os⟩ : Shared).TypeIs (.ref C) "type" := ⟨_, hC, rfl⟩
  simp only [checkBuiltinCall, tc_kind, tc_split]
  repeat (any_goals (first | assumption | with_reducible refine wpAny_loadPart_at hC ?_ | with_reducible refine wpAny_onRaise ?_ | with_reducible refine wpAny_map ?_ | wp_step))
theorem call_kw (F : ExcBaseFacts B newId initId bmB) (hT : ∀ X : String, bm.contains (.type X) = bmB.contains (.type X)) {rest : List Value} {kw : List (Str × Value)} {fI : Addr}
    (hC : h.get? C = some (excClassObj nm q C N bs bm hdct sn sub ab col dd k0 k1 k2 k3 k5 newId))
    (hi : W.Looks (model prog w) h (typeLookup (.ref C) "__init__") (some (.ref fI))) (hb : ∀ self, W.Looks (model prog w) h (bindSpecial (.ref fI) self) (.ref fI, [self])) (hrest : rest.length ≤ sizeLine)
    (hq : codeAny (model prog w) (A.under (.builtin "type.__call__" ⟨.ref C :: rest, kw⟩)) (.call (.ref fI) ⟨.ref (h.objs.size + 1) :: rest, kw⟩) (W.InitBack (h.objs.size + 1) R)
      ⟨(h.push (W.kdv_tup rest)).push (excO C h.objs.size), g, d, t, os⟩) :
    codeAny (model prog w) A (.call (.ref C) ⟨rest, kw⟩) R ⟨h, g, d, t, os⟩ := by
  have f1 := tc_lookup
  have f2 := tc_bind (.ref C)
  have ty : (⟨h, g, d, t, os⟩ : Shared).TypeIs (.ref C) "type" := ⟨_, hC, rfl⟩
  refine codeAny_of_tree ?_
  show wpAny _ _ (callAny (.ref C) _) _ _ _
  repeat (any_goals (first | assumption | with_reducible refine wpAny_loadPart_at hC ?_ | wp_step))
  refine ⟨rfl, ?_⟩
  refine codeAny_call_builtin_at (Code.quiet_builtin _ (by decide +kernel)) entry_typeCall (look_type hC (type_kw F hT hC hi hb hrest ?_))
  refine codeAny_mono hq fun r s' z => ?_
  rcases r with e | (v | _ | _ | _) <;> exact z
end
end MeX
end PySem
namespace ME
open PySem PySem.Spec L2
def Src.up : Src → Src
  | .p i => .p (i + 1)
  | .k i => .k i
  | .d i => .d i
theorem pick_up {α : Type} (x : α) (us ds ws : List α) : ∀ l : List Src, pick (x :: us) ds ws (l.map Src.up) = pick us ds ws l
  | [] => rfl
  | .p i :: r => by
    show pick (x :: us) ds ws (.p (i + 1) :: r.map Src.up) = _
    unfold pick
    rw [List.getElem?_cons_succ, pick_up x us ds ws r]
  | .k i :: r => by
    show pick (x :: us) ds ws (.k i :: r.map Src.up) = _
    unfold pick
    rw [pick_up x us ds ws r]
  | .d i :: r => by
    show pick (x :: us) ds ws (.d i :: r.map Src.up) = _
    unfold pick
    rw [pick_up x us ds ws r]
theorem pick_self {α : Type} (x : α) (us ds ws : List α) (l : List Src) : pick (x :: us) ds ws (.p 0 :: l.map Src.up) = x :: pick us ds ws l := by
  show x :: pick (x :: us) ds ws (l.map Src.up) = _
  rw [pick_up]
/-- what the __init__ of an exception class promises: the fields are stored -/
def spXI (C : Addr) (nms : List Str) : Sp := fun vs H Q _ => ∃ a ws, vs = .ref a :: ws ∧ ws.length = nms.length ∧ H a = some (exo a C none) ∧
  ∀ d H', H d = none → d ≠ a → H' a = some (exo a C (some d)) → H' d = some (exd d (nms.zip ws).reverse) → (∀ b, b ≠ a → b ≠ d → H' b = H b) → Q .non H'
/-- an exception class of the text, its __init__ and the fields that it stores -/
structure XCl (P : Program) (w : World) (K : PySem.W.Frag) (mg : Str → Option Value) (base : Heap) (k : Nat) (x : Str) (C : Addr) (nms : List Str) (fI : Addr) (fd : FuncData) : Prop where
  oex : OexC K C
  init : PySem.W.findIn K (.ref C) "__init__" = some (some (.ref fI))
  fn : PySem.W.typeIn K (.ref fI) = some (.type "function")
  ok : FnOk P w K mg base (L2.CX P w) k fI fd ("self" :: nms) (spXI C nms)
  mgC : mg x = some (.ref C)
section
variable {X : Cx} {m : Am} {es : List Expr} {kws : List Keyword} {ks : List Str} {ra rk : AX} {n k : Nat} {pos p : Pos} {x : Str} {C fI : Addr} {nms : List Str} {fd : FuncData} {dvs : List V} {l : List Src}
/-- C(..), made to be raised or kept -/
theorem pmk_exc (T : XCl X.prog X.w X.K X.mg X.base k x C nms fI fd) (hr : Room (k + 1) X.A) (hx : Passes (L2.CX X.prog X.w) X (fun _ _ _ => False)) (hb : Bd X.K fd ("self" :: nms) (n + 1) ks dvs (.p 0 :: l.map Src.up)) (hg : Gl X x) (hn : n ≤ 1000)
    (ha : PAK X es kws n ks (tAK m n ks.length ra rk)) (hdb : (x == ("__debug__" : Str)) = false := by decide) :
    PMk X (.Call (.Name x p) es kws pos) (fun σ H Q => tAK m n ks.length ra rk σ H fun vs zs H1 => (pick vs dvs zs l).length = nms.length ∧ ∀ d, H1 d = none → Q (.ref C) (some d) (upd H1 d (.xd (nms.zip (pick vs dvs zs l)).reverse))) := by
  intro pins s σ H Q I h
  obtain ⟨nm, q, N, bs, bm, sn, sub, ab, col, dd, k0, k1, k2, k3, k5, hC, hbm⟩ := T.oex.cls
  refine wpAny_Call_Name_kw (ld_glob I hg T.mgC ?_ hdb)
  refine ha.run pos (.ref C) [] pins s σ H _ _ T.oex.kC I h fun us ws s2 vs zs H1 I1 r1 rz l1 l2 ⟨hlen, hq⟩ => ?_
  show wpAny _ _ (call (.ref C) us (ks.zip ws)) _ _ _
  obtain ⟨its, vd, bd⟩ := hb.ex
  obtain ⟨hp, g, dr, tk, os⟩ := s2
  have hsz : hp.objs.size ≤ hp.objs.size + 1 := Nat.le_succ _
  have hn1 : H1 (hp.objs.size + 1) = none := I1.hok.fresh hsz
  have kk : ∀ b o, hp.get? b = some o → ((hp.push (PySem.W.kdv_tup us)).push (PySem.HandSPX.excO C hp.objs.size)).get? b = some o := fun b o e => Heap.get?_push_of_some _ (Heap.get?_push_of_some _ e)
  have hget : ((hp.push (PySem.W.kdv_tup us)).push (PySem.HandSPX.excO C hp.objs.size)).get? (hp.objs.size + 1) = some (PySem.HandSPX.excO C hp.objs.size) := by heap_get
  have I2 : Inv X pins σ (upd H1 (hp.objs.size + 1) (exo (hp.objs.size + 1) C none)) ⟨(hp.push (PySem.W.kdv_tup us)).push (PySem.HandSPX.excO C hp.objs.size), g, dr, tk, os⟩ :=
    I1.laid (t' := tk) (a := hp.objs.size + 1) (o := exo (hp.objs.size + 1) C none) (h' := (hp.push (PySem.W.kdv_tup us)).push (PySem.HandSPX.excO C hp.objs.size)) kk hsz (exo_ok hget)
  have hus : us.length ≤ sizeLine := by
    rw [l1, sizeLine_eq]; omega
  have vp : Vals (V.ref (hp.objs.size + 1) :: pick vs dvs zs l) (Value.ref (hp.objs.size + 1) :: pick us its ws l) := .cons rfl (vals_pick r1 vd rz l)
  have bt := bd ⟨(hp.push (PySem.W.kdv_tup us)).push (PySem.HandSPX.excO C hp.objs.size), g, dr, tk, os⟩ (.ref (hp.objs.size + 1) :: us) ws I2.kIn (by simp [l1]) l2
  rw [pick_self] at bt
  have sp : spXI C nms (.ref (hp.objs.size + 1) :: pick vs dvs zs l) (upd H1 (hp.objs.size + 1) (exo (hp.objs.size + 1) C none))
      (fun v H2 => v = .non ∧ ∃ (d : Addr) (fs : List (Str × V)), H2 (hp.objs.size + 1) = some (exo (hp.objs.size + 1) C (some d)) ∧ H2 d = some (exd d fs) ∧ H1 d = none ∧ Q (.ref C) (some d) (upd (del H2 (hp.objs.size + 1)) d (.xd fs))) (fun _ _ _ => False) := by
    refine ⟨hp.objs.size + 1, _, rfl, hlen, upd_same, fun d H' hd hne ha' hd' hr' => ⟨rfl, d, _, ha', hd', ?_, ?_⟩⟩
    · rw [upd_ne hne] at hd; exact hd
    · have e : upd (del H' (hp.objs.size + 1)) d (.xd (nms.zip (pick vs dvs zs l)).reverse) = upd H1 d (.xd (nms.zip (pick vs dvs zs l)).reverse) := by
        funext b
        by_cases hbd : b = d
        · subst hbd; rw [upd_same, upd_same]
        · rw [upd_ne hbd, upd_ne hbd]
          by_cases hba : b = hp.objs.size + 1
          · subst hba; rw [del_same, hn1]
          · rw [del_ne hba, hr' b hba hbd, upd_ne hba]
      rw [e]
      exact hq d (by rw [upd_ne hne] at hd; exact hd)
  refine wpAny_call (PySem.MeX.call_kw F.excBase_ValueError (fun Y => PySem.HandSPX.refsVE_contains Y bm hbm) (I1.kIn _ _ hC) (PySem.W.looks_findIn I1.kIn T.init) (fun self => PySem.W.bind_fn I1.kIn self T.fn) hus
    (codeAny_mono (T.ok.run _ X.stack _ _ ⟨Value.ref (hp.objs.size + 1) :: us, ks.zip ws⟩ (Value.ref (hp.objs.size + 1) :: pick us its ws l) _ _ (fun _ _ _ => False) (hr.make C us (ks.zip ws)) (I2.env0.make C us (ks.zip ws)) bt vp sp) fun r s' hq' => ?_))
  cases r with
  | error er => exact hx pins σ _ _ er s' I2 hq'
  | ok fl =>
    cases fl with
    | ret u =>
      obtain ⟨v, H2, os2, bare2, un2, hok2, rv, ev, d, fs, ea, ed, hd1, q2⟩ := hq'
      subst ev
      obtain ⟨h2, g2, d2, t2, os'⟩ := s'
      exact ⟨rv, mk_end (raises_own T.oex.exC T.oex.tyC) I1 hsz kk un2 hok2 os2 bare2 ea ed hd1 q2⟩
    | next => exact False.elim hq'
    | brk => exact False.elim hq'
    | cont => exact False.elim hq'
/-- a made exception that is kept as a value -/
theorem pe_of_mk {e : Expr} {t : St → Hp → XK → Prop} (h : PMk X e t) : PE X e (fun σ H Q => t σ H fun cls d H' => ∃ C, cls = .ref C ∧ ∀ a, H' a = none → Q (.ref a) (upd H' a (ExV a C d))) := by
  refine ⟨fun pins s σ H Q I ht => ?_⟩
  refine thn (h pins s σ H _ I ht) fun u s' ⟨a, oe, vs, sI, H', cls, d, eu, I', k, na, he, z, hd, h1, hna, os, ag, _, C, ec, q⟩ => ?_
  subst eu ec
  have new : ObjOk X.prog X.w (upd H' a (ExV a C d)) s'.heap a (ExV a C d) := ExV_ok he z hd
  have un : Un (frs X.stack) [] H' (upd H' a (ExV a C d)) sI.heap s'.heap := Un.laidN k na hna
  exact ⟨.ref a, _, I'.call' os un (HOk.laidN I'.hok k hna new) ag (fun _ z => nomatch z), rfl, q a hna⟩
end

/-! ### exceptions as data -/
theorem lookup_none {α β : Type} [BEq α] [LawfulBEq α] {k : α} : ∀ {l : List (α × β)}, k ∉ l.map (·.1) → l.lookup k = none
  | [], _ => rfl
  | (a, b) :: r, h => by
    have h1 : (k == a) = false := by
      simp only [List.map_cons, List.mem_cons, not_or] at h
      exact beq_eq_false_iff_ne.mpr h.1
    rw [List.lookup_cons, h1]
    exact lookup_none fun z => h (by simp only [List.map_cons, List.mem_cons]; exact .inr z)
theorem lookup_snoc {α β : Type} [BEq α] [LawfulBEq α] {k a : α} {b : β} : ∀ {l : List (α × β)}, (l ++ [(a, b)]).lookup k = match l.lookup k with | some x => some x | none => if k == a then some b else none
  | [] => by
    show List.lookup k [(a, b)] = _
    rw [List.lookup_cons]
    cases k == a <;> rfl
  | (c, d) :: r => by
    rw [List.cons_append, List.lookup_cons, List.lookup_cons]
    cases k == c with
    | true => rfl
    | false => exact lookup_snoc
theorem lookup_rev {α β : Type} [BEq α] [LawfulBEq α] {k : α} : ∀ {l : List (α × β)}, (l.map (·.1)).Nodup → l.reverse.lookup k = l.lookup k
  | [], _ => rfl
  | (a, b) :: r, h => by
    have h' : a ∉ r.map (·.1) ∧ (r.map (·.1)).Nodup := List.nodup_cons.mp h
    rw [List.reverse_cons, lookup_snoc, lookup_rev h'.2, List.lookup_cons]
    by_cases e : k = a
    · subst e
      rw [lookup_none h'.1]
      simp
    · have : (k == a) = false := beq_eq_false_iff_ne.mpr e
      rw [this]
      cases r.lookup k <;> rfl
theorem zip_keys {α β : Type} : ∀ {a : List α} {b : List β}, b.length = a.length → (a.zip b).map (·.1) = a
  | [], _, _ => rfl
  | x :: a, [], h => by simp at h
  | x :: a, y :: b, h => by
    simp only [List.zip_cons_cons, List.map_cons]
    rw [zip_keys (by simpa using h)]
def mExcG (n k : Nat) (dd : List D) (l : List Src) (nf : Nat) (a b : AX) : DS → M (List D) := fun δ => (a δ).bnd fun x => (b δ).bnd fun y => if x.length = n ∧ y.length = k then (if (pick x dd y l).length = nf then M.ret (pick x dd y l) else M.stuck) else M.stuck
def mExc (c n k : Nat) (dd : List D) (l : List Src) (nf : Nat) (a b : AX) : EX := fun δ => (mExcG n k dd l nf a b δ).bnd fun fs => M.ret (.exc c fs)
def sRaise (c n k : Nat) (dd : List D) (l : List Src) (nf : Nat) (a b : AX) : SX := sBnd (mExcG n k dd l nf a b) fun fs δ p => some (.er c fs δ, p)
section
variable {X : Cx} {m : Am} {es : List Expr} {kws : List Keyword} {ks : List Str} {ra rk : AX} {n k : Nat} {pos p : Pos} {x : Str} {fI : Addr} {c : Nat} {fd : FuncData} {dvs : List V} {dd : List D} {l : List Src}
theorem tAK_gen {α β : Type} {R : Rl β α} {j : Nat} {g : List D → List D → M α} {σ : St} {H : Hp} {Q : β → Hp → Prop} (h : tY m r0 R () (fun _ δ => (ra δ).bnd fun x => (rk δ).bnd fun y => if x.length = n ∧ y.length = j then g x y else M.stuck) σ H Q) :
    tAK m n j ra rk σ H (fun vs zs H1 => ∃ G p δ ds es, Wd m.S m.pen G H1 p ∧ SlR m.S m.pen m.B G H1 σ δ ∧ Reps m.S G m.pen vs ds ∧ Reps m.S G m.pen zs es ∧ Post m.S m.pen R G H1 Q (fun c d H' => m.W c d σ H') (g ds es p)) := by
  have h' : tY m r0 R () (fun _ δ => ((ra δ).bnd fun x => (rk δ).bnd fun y => if x.length = n ∧ y.length = j then M.ret (x, y) else M.stuck).bnd fun z => g z.1 z.2) σ H Q := by
    obtain ⟨G, p, δ, u, w, sl, r, h⟩ := h
    refine ⟨G, p, δ, u, w, sl, r, ?_⟩
    have e : (((ra δ).bnd fun x => (rk δ).bnd fun y => if x.length = n ∧ y.length = j then M.ret (x, y) else M.stuck).bnd fun z => g z.1 z.2) = (ra δ).bnd fun x => (rk δ).bnd fun y => if x.length = n ∧ y.length = j then g x y else M.stuck := by
      rw [M.assoc]
      congr 1; funext x
      rw [M.assoc]
      congr 1; funext y
      split <;> rfl
    dsimp only at h ⊢
    rw [e]; exact h
  refine (tY_bind (R1 := rP m.rA m.rA) r0_mono h').imp fun v H1 h2 => ?_
  obtain ⟨G, p, δ, ⟨_, ds, es⟩, w, sl, ⟨_, r1, r2⟩, h5⟩ := h2
  exact ⟨G, p, δ, ds, es, w, sl, r1, r2, h5⟩
/-- C(..) as a value -/
theorem me_exc (T : XCl X.prog X.w X.K X.mg X.base k x (m.S.ca c) (m.S.nm c) fI fd) (nd : (m.S.nm c).Nodup) (hr : Room (k + 1) X.A) (hx : Passes (L2.CX X.prog X.w) X (fun _ _ _ => False)) (hb : Bd X.K fd ("self" :: m.S.nm c) (n + 1) ks dvs (.p 0 :: l.map Src.up)) (hg : Gl X x) (hn : n ≤ 1000)
    (hdd : ∀ G pen, Reps m.S G pen dvs dd) (ha : PAK X es kws n ks (tAK m n ks.length ra rk)) (hdb : (x == ("__debug__" : Str)) = false := by decide) :
    PE X (.Call (.Name x p) es kws pos) (tE m (mExc c n ks.length dd l (m.S.nm c).length ra rk)) := by
  refine PE.imp (pe_of_mk (pmk_exc T hr hx hb hg hn ha hdb)) fun σ H Q h => ?_
  have h' : tY m r0 m.rE () (fun _ δ => (ra δ).bnd fun x => (rk δ).bnd fun y => if x.length = n ∧ y.length = ks.length then ((if (pick x dd y l).length = (m.S.nm c).length then M.ret (pick x dd y l) else M.stuck).bnd fun fs => M.ret (.exc c fs)) else M.stuck) σ H Q := by
    obtain ⟨G, p, δ, u, w, sl, r, h⟩ := h
    refine ⟨G, p, δ, u, w, sl, r, ?_⟩
    dsimp only [mExc, mExcG] at h ⊢
    rw [M.assoc] at h
    simp only [M.assoc] at h
    have e : (fun x_1 => (rk δ).bnd fun x_2 => (if x_1.length = n ∧ x_2.length = ks.length then (if (pick x_1 dd x_2 l).length = (m.S.nm c).length then M.ret (pick x_1 dd x_2 l) else M.stuck) else M.stuck).bnd fun fs => M.ret (D.exc c fs)) =
      (fun x => (rk δ).bnd fun y => if x.length = n ∧ y.length = ks.length then ((if (pick x dd y l).length = (m.S.nm c).length then M.ret (pick x dd y l) else M.stuck).bnd fun fs => M.ret (D.exc c fs)) else M.stuck) := by
      funext x; congr 1; funext y
      split <;> rfl
    rw [← e]; exact h
  refine (tAK_gen h').imp fun v H1 ⟨G, p, δ, ds, es, w, sl, r1, r2, h5⟩ => ?_
  have rp := reps_pick r1 (hdd G m.pen) r2 l
  split at h5
  · rename_i hl
    refine ⟨by rw [rp.length]; exact hl, fun d hd => ⟨_, rfl, fun a ha => ?_⟩⟩
    have hda : d ≠ a := fun z => by subst z; rw [upd_same] at ha; cases ha
    have w1 := Wd.alloc (o := .xd ((m.S.nm c).zip (pick v.1 dvs v.2 l)).reverse) w hd
    have w2 := Wd.alloc (o := ExV a (m.S.ca c) (some d)) w1 ha
    have x1 : Ex m.pen G H1 _ _ := Ex.alloc (o := .xd ((m.S.nm c).zip (pick v.1 dvs v.2 l)).reverse) hd (w.gfree hd)
    have x2 : Ex m.pen _ _ _ _ := Ex.alloc (o := ExV a (m.S.ca c) (some d)) ha (w1.gfree ha)
    refine h5 (.ref a) _ _ (x1.trans x2) w2 ?_
    refine .exc (d := d) upd_same (by rw [upd_ne hda, upd_same]) (fun f => lookup_rev (by rw [zip_keys (by rw [rp.length]; exact hl)]; exact nd)) (by rw [rp.length]; exact hl) (rp.mono (x1.trans x2).sub)
  · exact h5.elim
/-- raise C(..) -/
theorem ms_raise {pos' : Pos} (T : XCl X.prog X.w X.K X.mg X.base k x (m.S.ca c) (m.S.nm c) fI fd) (nd : (m.S.nm c).Nodup) (hc : X.calm = true) (tk : Takes X m.W) (hr : Room (k + 1) X.A) (hx : Passes (L2.CX X.prog X.w) X (fun _ _ _ => False)) (hb : Bd X.K fd ("self" :: m.S.nm c) (n + 1) ks dvs (.p 0 :: l.map Src.up)) (hg : Gl X x) (hn : n ≤ 1000)
    (hdd : ∀ G pen, Reps m.S G pen dvs dd) (ha : PAK X es kws n ks (tAK m n ks.length ra rk)) (hdb : (x == ("__debug__" : Str)) = false := by decide) :
    PS X (.Raise (some (.Call (.Name x p) es kws pos)) none pos') (tS m (sRaise c n ks.length dd l (m.S.nm c).length ra rk)) := by
  refine PS.imp (ps_raise hc tk (pmk_exc T hr hx hb hg hn ha hdb)) fun K σ H h => ?_
  refine (tAK_gen (tS_bind (R := m.rA) h)).imp fun v H1 ⟨G, p, δ, ds, es, w, sl, r1, r2, h5⟩ => ?_
  have rp := reps_pick r1 (hdd G m.pen) r2 l
  split at h5
  · rename_i hl
    refine ⟨by rw [rp.length]; exact hl, fun d hd => ?_⟩
    obtain ⟨a, G1, p1, δ1, w1, x1, sl1, ra1, q1⟩ := h5 (pick v.1 dvs v.2 l) G H1 Ex.refl w rp
    have w2 := Wd.alloc (o := .xd ((m.S.nm c).zip (pick v.1 dvs v.2 l)).reverse) w1 hd
    have x2 : Ex m.pen _ _ _ _ := Ex.alloc (o := .xd ((m.S.nm c).zip (pick v.1 dvs v.2 l)).reverse) hd (w1.gfree hd)
    refine q1 (some d) σ _ _ x2.sub w2 (x1.trans x2) (sl1.ex x2) ⟨_, _, upd_same, fun f => lookup_rev (by rw [zip_keys (by rw [rp.length]; exact hl)]; exact nd), by rw [rp.length]; exact hl, Reps.mono x2.sub ra1⟩
  · exact h5.elim
end
end ME

namespace ME
open PySem PySem.Spec L2

/-! ### operators -/
def szOk (n : Nat) : Bool := decide (n ≤ 16777216)
theorem szOk_le {n : Nat} (h : szOk n = true) : n ≤ sizeLine := by rw [sizeLine_eq]; exact of_decide_eq_true h
def dAdd : D → D → M D
  | .int i, .int j => M.ret (.int (i + j))
  | .str x, .str y => if szOk (x.length + y.length) then M.ret (.str (x ++ y)) else M.stuck
  | .lst a, .lst b => if szOk (a.length + b.length) then M.ret (.lst (a ++ b)) else M.stuck
  | .tup a, .tup b => if szOk (a.length + b.length) then M.ret (.tup (a ++ b)) else M.stuck
  | _, _ => M.stuck
def dSub : D → D → M D
  | .int i, .int j => M.ret (.int (i - j))
  | _, _ => M.stuck
def dMul : D → D → M D
  | .int i, .int j => if decide (i.natAbs < 2 ^ 64) || decide (j.natAbs < 2 ^ 64) then M.ret (.int (i * j)) else M.stuck
  | _, _ => M.stuck
def dPow : D → D → M D
  | .int i, .int j => if decide (0 ≤ j) && decide (j ≤ 1000000) && decide (i.natAbs < 2 ^ 64) then M.ret (.int (i ^ j.toNat)) else M.stuck
  | _, _ => M.stuck
def dMod : D → D → M D
  | .int i, .int j => if decide (0 < j) then M.ret (.int (i % j)) else M.stuck
  | _, _ => M.stuck
def dDiv : D → D → M D
  | .int i, .int j => if decide (0 < j) && decide (j < 1073741824) then M.ret (.int (i / j)) else M.stuck
  | _, _ => M.stuck
def dNeg : D → M D
  | .int i => M.ret (.int (-i))
  | _ => M.stuck
def dCmpI (f : Int → Int → Bool) : D → D → M D
  | .int i, .int j => M.ret (.bl (f i j))
  | _, _ => M.stuck
section
variable {X : Cx} {m : Am}
/-- an end that changes nothing -/
theorem fin_same {G H : Hp} {p : Pn} {Q : VK} {E : XK} {d : D} {v : V} (w : Wd m.S m.pen G H p) (r : Rep m.S G m.pen v d) (h : Post m.S m.pen m.rE G H Q E (M.ret d p)) : Q v H := h v G H Ex.refl w r
/-- an end that lays one frozen object -/
theorem fin_new {G H : Hp} {p : Pn} {Q : VK} {E : XK} {d : D} {o : HO} (w : Wd m.S m.pen G H p) (h : Post m.S m.pen m.rE G H Q E (M.ret d p)) (r : ∀ a, H a = none → Rep m.S (upd G a o) m.pen (.ref a) d) : ∀ a, H a = none → Q (.ref a) (upd H a o) := fun a ha =>
  h (.ref a) _ _ (Ex.alloc ha (w.gfree ha)) (w.alloc ha) (r a ha)
theorem r_add (hK : X.K = m.S.K) : R2Ok m (fun x y H Q => ((rI0 fun i j => .int (i + j)) x y H Q ∨ (∃ i j, x = .str i ∧ y = .str j ∧ i.length + j.length ≤ sizeLine ∧ Q (.str (i ++ j)) H)) ∨ rCat x y H Q ∨ rCatA X.K x y H Q) dAdd := by
  rintro σ x y H Q ⟨G, p, δ, ⟨⟨_, dx⟩, dy⟩, w, sl, ⟨⟨_, rx⟩, ry⟩, h⟩
  have rx : Rep m.S G m.pen x dx := rx
  have ry : Rep m.S G m.pen y dy := ry
  rw [hK]
  cases rx with
  | int i => cases ry with
    | int j => exact .inl (.inl ⟨i, j, rfl, rfl, fin_same w (.int _) h⟩)
    | _ => exact h.elim
  | str i => cases ry with
    | str j =>
      dsimp only [dAdd] at h
      split at h
      · rename_i hz
        exact .inl (.inr ⟨i, j, rfl, rfl, szOk_le hz, fin_same w (.str _) h⟩)
      · exact h.elim
    | _ => exact h.elim
  | @lst a vs ds ha ra => cases ry with
    | @lst b us es hb rb =>
      dsimp only [dAdd] at h
      split at h
      · rename_i hz
        refine .inr (.inl ⟨a, b, vs, us, rfl, rfl, w.sub _ _ ha, w.sub _ _ hb, by rw [ra.length, rb.length]; exact szOk_le hz, fin_new w h fun c hc => ?_⟩)
        exact .lst upd_same ((ra.append rb).mono (Sub.alloc (w.gfree hc)))
      · exact h.elim
    | _ => exact h.elim
  | @tup a vs ds ha ra => cases ry with
    | @tup b us es hb rb =>
      dsimp only [dAdd] at h
      split at h
      · rename_i hz
        refine .inr (.inr ⟨a, b, vs, us, rfl, rfl, w.sub.sqt ha, w.sub.sqt hb, by rw [ra.length, rb.length]; exact szOk_le hz, fun e => ?_, fun _ e => ?_, fun _ _ => fin_new w h fun c hc => ?_⟩)
        · subst e; cases ra; exact fin_same w (.tup hb rb) h
        · subst e; cases rb; rw [List.append_nil] at h; exact fin_same w (.tup ha ra) h
        · exact .tup (.of upd_same) ((ra.append rb).mono (Sub.alloc (w.gfree hc)))
      · exact h.elim
    | _ => exact h.elim
  | _ => exact h.elim
theorem r_sub : R2Ok m (rI0 fun i j => .int (i - j)) dSub := by
  rintro σ x y H Q ⟨G, p, δ, ⟨⟨_, dx⟩, dy⟩, w, sl, ⟨⟨_, rx⟩, ry⟩, h⟩
  have rx : Rep m.S G m.pen x dx := rx
  have ry : Rep m.S G m.pen y dy := ry
  cases rx with
  | int i => cases ry with
    | int j => exact ⟨i, j, rfl, rfl, fin_same w (.int _) h⟩
    | _ => exact h.elim
  | _ => exact h.elim
theorem r_cmpI {f : Int → Int → Bool} : R2Ok m (rI0 fun i j => .bl (f i j)) (dCmpI f) := by
  rintro σ x y H Q ⟨G, p, δ, ⟨⟨_, dx⟩, dy⟩, w, sl, ⟨⟨_, rx⟩, ry⟩, h⟩
  have rx : Rep m.S G m.pen x dx := rx
  have ry : Rep m.S G m.pen y dy := ry
  cases rx with
  | int i => cases ry with
    | int j => exact ⟨i, j, rfl, rfl, fin_same w (.bl _) h⟩
    | _ => exact h.elim
  | _ => exact h.elim
theorem abs64 {i : Int} (h : i.natAbs < 2 ^ 64) : -(2 ^ 64) < i ∧ i < 2 ^ 64 := by omega
theorem r_mul : R2Ok m (rI CMul fun i j => .int (i * j)) dMul := by
  rintro σ x y H Q ⟨G, p, δ, ⟨⟨_, dx⟩, dy⟩, w, sl, ⟨⟨_, rx⟩, ry⟩, h⟩
  have rx : Rep m.S G m.pen x dx := rx
  have ry : Rep m.S G m.pen y dy := ry
  cases rx with
  | int i => cases ry with
    | int j =>
      dsimp only [dMul] at h
      split at h
      · rename_i hz
        refine ⟨i, j, rfl, rfl, ?_, fin_same w (.int _) h⟩
        rcases Bool.or_eq_true _ _ ▸ hz with q | q
        · exact .inl (abs64 (of_decide_eq_true q))
        · exact .inr (abs64 (of_decide_eq_true q))
      · exact h.elim
    | _ => exact h.elim
  | _ => exact h.elim
theorem r_pow : R2Ok m (rI CPow fun i j => .int (i ^ j.toNat)) dPow := by
  rintro σ x y H Q ⟨G, p, δ, ⟨⟨_, dx⟩, dy⟩, w, sl, ⟨⟨_, rx⟩, ry⟩, h⟩
  have rx : Rep m.S G m.pen x dx := rx
  have ry : Rep m.S G m.pen y dy := ry
  cases rx with
  | int i => cases ry with
    | int j =>
      dsimp only [dPow] at h
      split at h
      · rename_i hz
        simp only [Bool.and_eq_true, decide_eq_true_eq] at hz
        exact ⟨i, j, rfl, rfl, ⟨hz.1.1, hz.1.2, hz.2⟩, fin_same w (.int _) h⟩
      · exact h.elim
    | _ => exact h.elim
  | _ => exact h.elim
theorem r_mod : R2Ok m (rI (fun _ j => 0 < j) fun i j => .int (i % j)) dMod := by
  rintro σ x y H Q ⟨G, p, δ, ⟨⟨_, dx⟩, dy⟩, w, sl, ⟨⟨_, rx⟩, ry⟩, h⟩
  have rx : Rep m.S G m.pen x dx := rx
  have ry : Rep m.S G m.pen y dy := ry
  cases rx with
  | int i => cases ry with
    | int j =>
      dsimp only [dMod] at h
      split at h
      · rename_i hz
        exact ⟨i, j, rfl, rfl, of_decide_eq_true hz, fin_same w (.int _) h⟩
      · exact h.elim
    | _ => exact h.elim
  | _ => exact h.elim
theorem r_div : R2Ok m (rI CDiv fun i j => .int (i / j)) dDiv := by
  rintro σ x y H Q ⟨G, p, δ, ⟨⟨_, dx⟩, dy⟩, w, sl, ⟨⟨_, rx⟩, ry⟩, h⟩
  have rx : Rep m.S G m.pen x dx := rx
  have ry : Rep m.S G m.pen y dy := ry
  cases rx with
  | int i => cases ry with
    | int j =>
      dsimp only [dDiv] at h
      split at h
      · rename_i hz
        simp only [Bool.and_eq_true, decide_eq_true_eq] at hz
        exact ⟨i, j, rfl, rfl, hz, fin_same w (.int _) h⟩
      · exact h.elim
    | _ => exact h.elim
  | _ => exact h.elim
theorem r_neg : R1Ok m (rU fun i => .int (-i)) dNeg := by
  rintro σ x H Q ⟨G, p, δ, ⟨_, dx⟩, w, sl, ⟨_, rx⟩, h⟩
  have rx : Rep m.S G m.pen x dx := rx
  cases rx with
  | int i => exact ⟨i, rfl, fin_same w (.int _) h⟩
  | _ => exact h.elim
theorem op_addD : OpR X (binaryOp .Add) (fun x y H Q => ((rI0 fun i j => .int (i + j)) x y H Q ∨ (∃ i j, x = .str i ∧ y = .str j ∧ i.length + j.length ≤ sizeLine ∧ Q (.str (i ++ j)) H)) ∨ rCat x y H Q ∨ rCatA X.K x y H Q) :=
  OpR.or (OpR.or op_add op_add_str) (OpR.or op_cat op_catA)
end
/-! ### displays, items, len -/
def mLst (a : AX) : EX := fun δ => (a δ).bnd fun xs => if szOk xs.length then M.ret (.lst xs) else M.stuck
def mTup (a : AX) : EX := fun δ => (a δ).bnd fun xs => if szOk xs.length then M.ret (.tup xs) else M.stuck
/-- x[i] -/
def dIx : D → D → M D
  | .lst l, .int i => M.opt (atI l i)
  | .tup l, .int i => M.opt (atI l i)
  | .str z, .int i => if szOk z.length then (match atI z.cps.toList i with | some c => M.ret (.str ⟨#[c]⟩) | none => M.stuck) else M.stuck
  | _, _ => M.stuck
def dLen : List D → M D
  | [.lst l] => M.ret (.int l.length)
  | [.tup l] => M.ret (.int l.length)
  | [.dct l] => M.ret (.int l.length)
  | [.str x] => if szOk x.length then M.ret (.int x.length) else M.stuck
  | _ => M.stuck
/-- a built-in called -/
def mCB (f : List D → M D) (a : AX) : EX := fun δ => (a δ).bnd f
section
variable {X : Cx} {m : Am} {a b e : Expr} {es : List Expr} {pos : Pos} {ea eb : EX} {ra : AX}
theorem me_lst (h : PA X es (tAs m ra)) : PE X (.List es pos) (tE m (mLst ra)) := by
  refine PE.imp (pe_lst h) fun σ H Q h => ?_
  refine (tY_bind (R1 := m.rA) r0_mono h).imp fun vs H1 h2 => ?_
  obtain ⟨G, p, δ, ⟨_, ds⟩, w, sl, ⟨_, r⟩, h5⟩ := h2
  have r : Reps m.S G m.pen vs ds := r
  dsimp only at h5
  split at h5
  · rename_i hz
    exact ⟨by rw [r.length]; exact szOk_le hz, fin_new w h5 fun c hc => .lst upd_same (r.mono (Sub.alloc (w.gfree hc)))⟩
  · exact h5.elim
theorem me_tup {x1 : Nat} (h : PA X es (tAs m ra)) : PE X (.Tuple es x1 pos) (tE m (mTup ra)) := by
  refine PE.imp (pe_tup h) fun σ H Q h => ?_
  refine (tY_bind (R1 := m.rA) r0_mono h).imp fun vs H1 h2 => ?_
  obtain ⟨G, p, δ, ⟨_, ds⟩, w, sl, ⟨_, r⟩, h5⟩ := h2
  have r : Reps m.S G m.pen vs ds := r
  dsimp only at h5
  split at h5
  · rename_i hz
    exact ⟨by rw [r.length]; exact szOk_le hz, fin_new w h5 fun c hc => .tup (.of upd_same) (r.mono (Sub.alloc (w.gfree hc)))⟩
  · exact h5.elim
theorem reps_at {S : Sg} {G : Hp} {pen : Addr} {vs : List V} {ds : List D} {i : Int} {d : D} (r : Reps S G pen vs ds) (e : atI ds i = some d) : ∃ v, atI vs i = some v ∧ Rep S G pen v d := by
  unfold atI at e ⊢
  rw [r.length]
  cases q : ixN ds.length i with
  | none => rw [q] at e; cases e
  | some j => rw [q] at e; exact r.get e
theorem r_ix (hK : X.K = m.S.K) : R2Ok m (fun x y H Q => rIxL X.K x y H Q ∨ rIxT X.K x y H Q ∨ rIxS x y H Q) dIx := by
  rintro σ x y H Q ⟨G, p, δ, ⟨⟨_, dx⟩, dy⟩, w, sl, ⟨⟨_, rx⟩, ry⟩, h⟩
  have rx : Rep m.S G m.pen x dx := rx
  have ry : Rep m.S G m.pen y dy := ry
  rw [hK]
  cases rx with
  | @lst a vs ds ha ra => cases ry with
    | int i =>
      dsimp only [dIx] at h
      cases q : atI ds i with
      | none => rw [q] at h; exact h.elim
      | some d =>
        rw [q] at h
        obtain ⟨v, ev, rv⟩ := reps_at ra q
        exact .inl ⟨a, vs, i, v, rfl, rfl, .of (w.sub _ _ ha), ev, fin_same w rv h⟩
    | _ => exact h.elim
  | @tup a vs ds ha ra => cases ry with
    | int i =>
      dsimp only [dIx] at h
      cases q : atI ds i with
      | none => rw [q] at h; exact h.elim
      | some d =>
        rw [q] at h
        obtain ⟨v, ev, rv⟩ := reps_at ra q
        exact .inr (.inl ⟨a, vs, i, v, rfl, rfl, w.sub.sqt ha, ev, fin_same w rv h⟩)
    | _ => exact h.elim
  | str z => cases ry with
    | int i =>
      dsimp only [dIx] at h
      split at h
      · rename_i hz
        cases q : atI z.cps.toList i with
        | none => rw [q] at h; exact h.elim
        | some c => rw [q] at h; exact .inr (.inr ⟨z, i, c, rfl, rfl, szOk_le hz, q, fin_same w (.str _) h⟩)
      · exact h.elim
    | _ => exact h.elim
  | _ => exact h.elim
theorem IxR.or {r r' : R2} (h : IxR X r) (h' : IxR X r') : IxR X (fun x y H Q => r x y H Q ∨ r' x y H Q) := by
  intro value slice pins s σ H x y v u Q I rx ry q hs
  rcases q with q | q
  · exact h value slice pins s σ H x y v u Q I rx ry q hs
  · exact h' value slice pins s σ H x y v u Q I rx ry q hs
theorem me_ix (hK : X.K = m.S.K) (ha : PE X a (tE m ea)) (hb : PE X b (tE m eb)) (hs : PlainIx b) : PE X (.Subscript a b pos) (tE m (mBin dIx ea eb)) := by
  refine PE.imp (pe_ix (IxR.or ix_list (IxR.or ix_tup ix_str)) ha hb hs) fun σ H Q h => ?_
  refine (tY_bind (R1 := m.rE) r0_mono h).imp fun x H1 h2 => ?_
  exact (tY_bind (R1 := m.rE) (rP_mono r0_mono (rE_mono m)) h2).imp fun y H2 h4 => r_ix hK σ x y H2 Q h4
/-- a built-in function by its name -/
def RAOk (m : Am) (r : List V → Hp → VK → Prop) (f : List D → M D) : Prop := ∀ σ xs H Q, tY m (rP r0 m.rA) m.rE ((), xs) (fun z _ => f z.2) σ H Q → r xs H Q
theorem me_cb {id : String} {x : Str} {p : Pos} {r : List V → Hp → VK → Prop} {f : List D → M D} (hc : CallR X (.builtin id) r) (hr : RAOk m r f) (hg : Gl X x) (hm : X.mg x = none) (hv : bootBuiltins x = some (.builtin id)) (ha : PA X (e :: es) (tAs m ra)) (hn : x ≠ "__name__" := by decide) (hdb : (x == ("__debug__" : Str)) = false := by decide)
    (he : starEach (e :: es) X.env = (false, eval e X.env) :: starEach es X.env := by rfl) (hpl : (backTo pos (starEach es X.env)).any (·.1) = false := by rfl) : PE X (.Call (.Name x p) (e :: es) [] pos) (tE m (mCB f ra)) := by
  refine PE.imp (pe_callB hc hg hm hv ha hn hdb he hpl) fun σ H Q h => ?_
  exact (tY_bind (R1 := m.rA) r0_mono h).imp fun xs H1 h2 => hr σ xs H1 Q h2
theorem me_cty {T : String} {x : Str} {p : Pos} {r : List V → Hp → VK → Prop} {f : List D → M D} (hc : CallR X (.type T) r) (hr : RAOk m r f) (hg : Gl X x) (hm : X.mg x = none) (hv : bootBuiltins x = some (.type T)) (ha : PA X (e :: es) (tAs m ra)) (hn : x ≠ "__name__" := by decide) (hdb : (x == ("__debug__" : Str)) = false := by decide)
    (he : starEach (e :: es) X.env = (false, eval e X.env) :: starEach es X.env := by rfl) (hpl : (backTo pos (starEach es X.env)).any (·.1) = false := by rfl) : PE X (.Call (.Name x p) (e :: es) [] pos) (tE m (mCB f ra)) := by
  refine PE.imp (pe_callTy hc hg hm hv ha hn hdb he hpl) fun σ H Q h => ?_
  exact (tY_bind (R1 := m.rA) r0_mono h).imp fun xs H1 h2 => hr σ xs H1 Q h2
theorem CallR.or {f : Value} {r r' : List V → Hp → VK → Prop} (h : CallR X f r) (h' : CallR X f r') : CallR X f (fun xs H Q => r xs H Q ∨ r' xs H Q) := by
  intro pins s σ H xs us Q I r q
  rcases q with q | q
  · exact h pins s σ H xs us Q I r q
  · exact h' pins s σ H xs us Q I r q
end
end ME

namespace ME
open PySem PySem.Spec L2

/-! ### targets -/
abbrev GX := D → DS → Option DS
abbrev GXs := List D → DS → Option DS
def gN (i : Nat) : GX := fun d δ => some (δ.set i (some (.d d)))
def gT (g : GXs) : GX := fun d δ => match d with
  | .tup ds => g ds δ
  | _ => none
def gs0 : GXs := fun ds δ => match ds with
  | [] => some δ
  | _ => none
def gs1 (g : GX) (r : GXs) : GXs := fun ds δ => match ds with
  | d :: l => match g d δ with
    | some δ' => r l δ'
    | none => none
  | [] => none
/-- slots outside js are as they were -/
def Off (js : List Nat) (σ σ' : St) : Prop := σ'.length = σ.length ∧ ∀ j, j ∉ js → σ'[j]? = σ[j]?
theorem Off.trans {js : List Nat} {a b c : St} (h : Off js a b) (k : Off js b c) : Off js a c := ⟨k.1.trans h.1, fun j hj => (k.2 j hj).trans (h.2 j hj)⟩
theorem Off.mono {js ks : List Nat} {a b : St} (h : Off js a b) (k : ∀ j ∈ js, j ∈ ks) : Off ks a b := ⟨h.1, fun j hj => h.2 j fun z => hj (k j z)⟩
def tG (m : Am) (js : List Nat) (g : GX) : TG := fun v σ H Q => ∃ G p δ d, Wd m.S m.pen G H p ∧ SlR m.S m.pen m.B G H σ δ ∧ Rep m.S G m.pen v d ∧ ∃ δ', g d δ = some δ' ∧ ∀ σ', Off js σ σ' → SlR m.S m.pen m.B G H σ' δ' → Q σ' H
def tGs (m : Am) (js : List Nat) (g : GXs) : TGs := fun vs σ H Q => ∃ G p δ ds, Wd m.S m.pen G H p ∧ SlR m.S m.pen m.B G H σ δ ∧ Reps m.S G m.pen vs ds ∧ ∃ δ', g ds δ = some δ' ∧ ∀ σ', Off js σ σ' → SlR m.S m.pen m.B G H σ' δ' → Q σ' H
theorem PG.imp {X : Cx} {e : Expr} {t t' : TG} (h : PG X e t) (i : ∀ v σ H Q, t' v σ H Q → t v σ H Q) : PG X e t' := ⟨fun pins s σ H v u Q I r q => h.run pins s σ H v u Q I r (i v σ H Q q)⟩
theorem PGs.imp {X : Cx} {e : List Expr} {t t' : TGs} (h : PGs X e t) (i : ∀ v σ H Q, t' v σ H Q → t v σ H Q) : PGs X e t' := ⟨fun pins s σ H v u Q I r q => h.run pins s σ H v u Q I r (i v σ H Q q)⟩
section
variable {X : Cx} {m : Am} {js : List Nat} {pos : Pos}
theorem mg_name {i : Nat} {x : Str} (hN : X.N.Nodup) (hi : X.N[i]? = some x) (hx : Loc X.env.scope x) (hj : i ∈ js) (hf : X.fn x = true ∨ X.env.scope.names.lookup x = some .local := by first | exact .inl rfl | exact .inr rfl | assumption) : PG X (.Name x pos) (tG m js (gN i)) := by
  refine PG.imp (pg_name hN hi hx hf) fun v σ H Q ⟨G, p, δ, d, w, sl, r, δ', e, q⟩ => ?_
  have e' : δ.set i (some (.d d)) = δ' := Option.some.inj e
  subst e'
  exact q _ ⟨by simp, fun j hj' => List.getElem?_set_ne (fun z : i = j => hj' (z ▸ hj))⟩ (sl.set r)
theorem mgs_nil : PGs X [] (tGs m js gs0) := by
  refine PGs.imp pgs_nil fun vs σ H Q ⟨G, p, δ, ds, w, sl, r, δ', e, q⟩ => ?_
  cases r with
  | nil => cases e; exact ⟨rfl, q σ ⟨rfl, fun _ _ => rfl⟩ sl⟩
  | cons _ _ => cases e
theorem mgs_cons {e : Expr} {es : List Expr} {g : GX} {u : GXs} (h1 : PG X e (tG m js g)) (h2 : PGs X es (tGs m js u)) (hs : (assignEach (e :: es) X.env).map (·.2) = assign e X.env :: (assignEach es X.env).map (·.2) := by rfl) : PGs X (e :: es) (tGs m js (gs1 g u)) := by
  refine PGs.imp (pgs_cons h1 h2 hs) fun vs σ H Q ⟨G, p, δ, ds, w, sl, r, δ', e, q⟩ => ?_
  cases r with
  | nil => cases e
  | @cons v vs d ds rv rr =>
    dsimp only [gs1] at e
    cases h : g d δ with
    | none => rw [h] at e; cases e
    | some δ1 =>
      rw [h] at e
      exact ⟨v, vs, rfl, G, p, δ, d, w, sl, rv, δ1, h, fun σ1 o1 sl1 => ⟨G, p, δ1, ds, w, sl1, rr, δ', e, fun σ2 o2 sl2 => q σ2 (o1.trans o2) sl2⟩⟩
theorem mg_tup {es : List Expr} {k n : Nat} {g : GXs} (hK : X.K = m.S.K) (hc : X.calm = true) (h : PGs X es (tGs m js g)) (hn : (assignEach es X.env).length = n) (hl : ∀ ds δ δ', g ds δ = some δ' → ds.length = n) (hst : (assignEach es X.env).findIdx? (·.1) = none := by rfl) : PG X (.Tuple es k pos) (tG m js (gT g)) := by
  refine PG.imp (pg_tup hc h hn hst) fun v σ H Q ⟨G, p, δ, d, w, sl, r, δ', e, q⟩ => ?_
  cases r with
  | @tup a vs ds ha ra =>
    have e' : g ds δ = some δ' := e
    refine ⟨a, vs, rfl, ?_, by rw [ra.length]; exact hl ds δ δ' e', G, p, δ, ds, w, sl, ra, δ', e', q⟩
    rw [hK]; exact w.sub.sqt ha
  | _ => cases e
end

/-! ### what is walked -/
/-- the iterator J gives ds, one after another -/
def ItR (m : Am) (G : Hp) (J : It) (ds : List D) : Prop := ∀ G' H p, Sub G G' → Wd m.S m.pen G' H p →
  (∀ i d, ds[i]? = some d → J.go i H ∧ ∀ x H', J.yld i H x H' → ∃ G'', Ex m.pen G' H G'' H' ∧ Wd m.S m.pen G'' H' p ∧ Rep m.S G'' m.pen x d) ∧ (∀ i, ds.length ≤ i → J.stop i H)
def rIt (m : Am) : Rl It (List D) := fun G J ds => ItR m G J ds
theorem rIt_mono (m : Am) : (rIt m).Mono := fun G G' J ds s h G1 H p s1 w => h G1 H p (s.trans s1) w
def tI (m : Am) (f : DS → M (List D)) : TI := fun σ H R => tY m r0 (rIt m) () (fun _ => f) σ H R
theorem PI.imp {X : Cx} {tg e : Expr} {t t' : TI} (h : PI X tg e t) (i : ∀ σ H R, t' σ H R → t σ H R) : PI X tg e t' := ⟨fun pins s σ H R I q => h.run pins s σ H R I (i σ H R q)⟩
/-- the items of a list, of a tuple -/
def iLst (e : EX) : DS → M (List D) := fun δ => (e δ).bnd fun d => match d with
  | .lst l => M.ret l
  | _ => M.stuck
def iTpl (e : EX) : DS → M (List D) := fun δ => (e δ).bnd fun d => match d with
  | .tup l => M.ret l
  | _ => M.stuck
def iRng (e : AX) : DS → M (List D) := fun δ => (e δ).bnd fun d => match d with
  | [.int j] => if decide (-(2 ^ 62) ≤ j) && decide (j < 2 ^ 62) then M.ret ((List.range j.toNat).map fun (i : Nat) => D.int (i : Int)) else M.stuck
  | _ => M.stuck
section
variable {X : Cx} {m : Am} {tg e : Expr} {ea : EX} {ra : AX}
theorem mi_lst (hK : X.K = m.S.K) (h : PE X e (tE m ea)) : PI X tg e (tI m (iLst ea)) := by
  refine PI.imp (pi_list h) fun σ H R h => ?_
  refine (tY_bind (R1 := m.rE) r0_mono h).imp fun x H1 h2 => ?_
  obtain ⟨G, p, δ, ⟨_, d⟩, w, sl, ⟨_, r⟩, h5⟩ := h2
  have r : Rep m.S G m.pen x d := r
  rw [hK]
  cases r with
  | @lst a vs ds ha rr =>
    refine ⟨a, rfl, ⟨vs, .of (w.sub _ _ ha)⟩, h5 _ G H1 Ex.refl w ?_⟩
    intro G' H' p' s' w'
    have hl : SqL m.S.K H' a vs := .of (w'.sub _ _ (s' _ _ ha))
    refine ⟨fun i d e => ?_, fun i hi => ⟨vs, hl, by rw [rr.length]; exact hi⟩⟩
    obtain ⟨v, ev, rv⟩ := rr.get e
    refine ⟨⟨vs, v, hl, ev⟩, fun y H2 ⟨e2, q⟩ => ?_⟩
    subst e2
    have : some v = some y := ev.symm.trans (q vs hl)
    cases this
    exact ⟨G', Ex.refl, w', rv.mono s'⟩
  | _ => exact h5.elim
theorem mi_tup (hK : X.K = m.S.K) (h : PE X e (tE m ea)) : PI X tg e (tI m (iTpl ea)) := by
  refine PI.imp (pi_tup h) fun σ H R h => ?_
  refine (tY_bind (R1 := m.rE) r0_mono h).imp fun x H1 h2 => ?_
  obtain ⟨G, p, δ, ⟨_, d⟩, w, sl, ⟨_, r⟩, h5⟩ := h2
  have r : Rep m.S G m.pen x d := r
  rw [hK]
  cases r with
  | @tup a vs ds ha rr =>
    refine ⟨a, rfl, ⟨vs, w.sub.sqt ha⟩, h5 _ G H1 Ex.refl w ?_⟩
    intro G' H' p' s' w'
    have hl : SqT m.S.K H' a vs := w'.sub.sqt (s'.sqt ha)
    refine ⟨fun i d e => ?_, fun i hi => ⟨vs, hl, by rw [rr.length]; exact hi⟩⟩
    obtain ⟨v, ev, rv⟩ := rr.get e
    refine ⟨⟨vs, v, hl, ev⟩, fun y H2 ⟨e2, q⟩ => ?_⟩
    subst e2
    have : some v = some y := ev.symm.trans (q vs hl)
    cases this
    exact ⟨G', Ex.refl, w', rv.mono s'⟩
  | _ => exact h5.elim
theorem mi_rng {p pos : Pos} (hg : Gl X "range") (hm : X.mg "range" = none) (ha : PA X [e] (tAs m ra)) (hs : starEach [e] X.env = [(false, eval e X.env)] := by rfl) : PI X tg (.Call (.Name "range" p) [e] [] pos) (tI m (iRng ra)) := by
  refine PI.imp (pi_range1 hg hm ha hs) fun σ H R h => ?_
  refine (tY_bind (R1 := m.rA) r0_mono h).imp fun xs H1 h2 => ?_
  obtain ⟨G, p, δ, ⟨_, ds⟩, w, sl, ⟨_, r⟩, h5⟩ := h2
  have r : Reps m.S G m.pen xs ds := r
  dsimp only at h5
  split at h5
  · cases r with
    | cons r1 r2 =>
      cases r2
      cases r1 with
      | int j =>
        split at h5
        · rename_i hz
          simp only [Bool.and_eq_true, decide_eq_true_eq] at hz
          refine ⟨_, rfl, hz.1, hz.2, h5 _ G H1 Ex.refl w ?_⟩
          intro G' H' p' s' w'
          refine ⟨fun i d e => ?_, fun i hi => by rw [List.length_map, List.length_range] at hi; exact hi⟩
          rw [List.getElem?_map] at e
          cases q : (List.range (Int.toNat _))[i]? with
          | none => rw [q] at e; cases e
          | some k =>
          rw [q] at e
          cases e
          have hi := (List.getElem?_eq_some_iff.mp q).1
          rw [List.length_range] at hi
          rw [List.getElem?_range hi] at q
          cases q
          refine ⟨hi, fun y H2 ⟨e2, q⟩ => ?_⟩
          subst e2 q
          refine ⟨G', Ex.refl, w', ?_⟩
          have : (0 : Int) + i = (i : Int) := by omega
          rw [this]
          exact .int _
        · exact h5.elim
  · exact h5.elim
end

/-! ### for -/
def forGo (g : GX) (s : SX) : List D → SX
  | [], δ, p => some (.nx δ, p)
  | d :: ds, δ, p => match g d δ with
    | none => none
    | some δ1 => match s δ1 p with
      | some (.nx δ2, p2) => forGo g s ds δ2 p2
      | some (.ct δ2, p2) => forGo g s ds δ2 p2
      | some (.bk δ2, p2) => some (.nx δ2, p2)
      | r => r
def sFor (f : DS → M (List D)) (g : GX) (s : SX) : SX := sBnd f fun ds => forGo g s ds
section
variable {X : Cx} {m : Am} {tg iter : Expr} {body : List Stmt} {f : DS → M (List D)} {g : GX} {s : SX} {js : List Nat} {pos : Pos}
theorem ms_for (hp : PassesOwn (model X.prog X.w) X.A X.env X.xe) (hc : X.calm = true) (hi : PI X tg iter (tI m f)) (hg : PG X tg (tG m js g)) (hb : PSs X body (tS m s)) (hs : ∀ x, foldedSetIterable iter X.env x = pure x := by intro _; rfl) :
    PS X (.For tg iter body [] pos) (tS m (sFor f g s)) := by
  refine PS.imp (ps_for hp hc hi hg hb hs) fun K σ H h => ?_
  refine (tS_bind (R := rIt m) h).imp fun J H1 ⟨ds, G1, p1, δ1, w1, x1, sl1, it, q1⟩ => ?_
  let W : Nat → Nat → St → Hp → Prop := fun i n σ H => n = ds.length - i ∧ i ≤ ds.length ∧ ∃ G p δ, Sub G1 G ∧ Wd m.S m.pen G H p ∧ Ex m.pen m.G0 m.B G H ∧ SlR m.S m.pen m.B G H σ δ ∧ PostS m K G (forGo g s (ds.drop i) δ p)
  refine ⟨W, ⟨_, rfl, Nat.zero_le _, G1, p1, δ1, Sub.refl _, w1, x1, sl1, q1⟩, ?_⟩
  rintro i n σ2 H2 ⟨rfl, hle, G, p, δ, sb, w, x, sl, q⟩
  obtain ⟨go, st⟩ := it G H2 p sb w
  by_cases hi : i < ds.length
  · right
    have hd : ds[i]? = some ds[i] := List.getElem?_eq_getElem hi
    obtain ⟨g1, g2⟩ := go i _ hd
    refine ⟨g1, W (i + 1) (ds.length - (i + 1)), fun σ' H' hN => ⟨_, by omega, hN⟩, fun y H' hy => ?_⟩
    obtain ⟨G'', x'', w'', r''⟩ := g2 y H' hy
    rw [List.drop_eq_getElem_cons hi] at q
    dsimp only [forGo] at q
    cases hg' : g ds[i] δ with
    | none => rw [hg'] at q; exact q.elim
    | some δ' =>
      rw [hg'] at q
      refine ⟨G'', p, δ, ds[i], w'', sl.ex x'', r'', δ', hg', fun σ' _ sl' => ⟨G'', p, δ', w'', x.trans x'', sl', ?_⟩⟩
      dsimp only at q
      rcases hs' : s δ' p with _ | ⟨o, p2⟩
      · rw [hs'] at q; exact q
      · rw [hs'] at q
        cases o with
        | nx δ2 => exact fun σ3 G3 H3 s3 w3 x3 sl3 => ⟨rfl, hi, G3, p2, δ2, sb.trans (x''.sub.trans s3), w3, x3, sl3, q.mono (x''.sub.trans s3)⟩
        | ct δ2 => exact fun σ3 G3 H3 s3 w3 x3 sl3 => ⟨rfl, hi, G3, p2, δ2, sb.trans (x''.sub.trans s3), w3, x3, sl3, q.mono (x''.sub.trans s3)⟩
        | bk δ2 => exact q.mono x''.sub
        | rt d => exact q.mono x''.sub
        | er c fs δ2 => exact q.mono x''.sub
  · left
    have : i = ds.length := by omega
    subst this
    refine ⟨st _ (Nat.le_refl _), ?_⟩
    rw [List.drop_length] at q
    exact q σ2 G H2 (Sub.refl _) w x sl
end
end ME

namespace ME
open PySem PySem.Spec L2

def wipeD (δ : DS) : List Nat → DS
  | [] => δ
  | v :: vs => (wipeD δ vs).set v none
def M.calm {α : Type} (m : M α) : M α := fun p => match m p with
  | some (.ok a, p') => some (.ok a, p')
  | _ => none
def compGo (g : GX) (t : TX) (e : EX) (δ : DS) : List D → List D → M D
  | [], acc => if szOk acc.length then M.ret (.lst acc) else M.stuck
  | d :: r, acc => match g d δ with
    | none => M.stuck
    | some δ1 => (t δ1).calm.bnd fun b => if b = true then (e δ1).calm.bnd fun y => if decide (acc.length < 16777216) then compGo g t e δ r (acc ++ [y]) else M.stuck else compGo g t e δ r acc
def mComp (f : DS → M (List D)) (g : GX) (t : TX) (e : EX) (vs : List Nat) : EX := fun δ => (f δ).bnd fun ds => compGo g t e (wipeD δ vs) ds []
def mYes : TX := fun _ => M.ret true
abbrev Am.nox (m : Am) : Am := { m with W := fun _ _ _ _ => False }
section
variable {S : Sg} {pen : Addr} {B G H : Hp} {σ : St} {δ : DS}
theorem SlR.setNone {i : Nat} (sl : SlR S pen B G H σ δ) : SlR S pen B G H (σ.set i none) (δ.set i none) := by
  have old : ∀ (j : Nat) s, (δ.set i none)[j]? = some (some s) → δ[j]? = some (some s) ∧ j ≠ i := fun j s e => by
    by_cases hj : i = j
    · subst hj
      rw [List.getElem?_set] at e
      simp only [if_true] at e
      split at e
      · cases e
      · cases e
    · rw [List.getElem?_set_ne hj] at e
      exact ⟨e, Ne.symm hj⟩
  have same : ∀ (j : Nat), j ≠ i → (σ.set i Option.none)[j]? = σ[j]? := fun j hj => List.getElem?_set_ne (Ne.symm hj)
  refine ⟨by simp [sl.len], fun j x e => ?_, fun j xs e => ?_, fun j xs e => ?_, fun j c xs e => ?_, fun j k s t l e1 e2 n1 n2 f1 f2 => ?_⟩
  · obtain ⟨e', hj⟩ := old j _ e
    rw [same j hj]; exact sl.val j x e'
  · obtain ⟨e', hj⟩ := old j _ e
    rw [same j hj]; exact sl.ml j xs e'
  · obtain ⟨e', hj⟩ := old j _ e
    rw [same j hj]; exact sl.md j xs e'
  · obtain ⟨e', hj⟩ := old j _ e
    rw [same j hj]; exact sl.mo j c xs e'
  · obtain ⟨e1', hj⟩ := old j _ e1
    obtain ⟨e2', hk⟩ := old k _ e2
    rw [same j hj] at f1
    rw [same k hk] at f2
    exact sl.inj j k s t l e1' e2' n1 n2 f1 f2
theorem SlR.wipe (sl : SlR S pen B G H σ δ) : ∀ vs : List Nat, SlR S pen B G H (wipe σ vs) (wipeD δ vs)
  | [] => sl
  | v :: vs => (SlR.wipe sl vs).setNone
theorem wipe_in {σ : St} {j : Nat} : ∀ {vs : List Nat}, j ∈ vs → j < σ.length → (wipe σ vs)[j]? = some none
  | v :: vs, h, hl => by
    unfold L2.wipe
    by_cases e : v = j
    · subst e
      rw [List.getElem?_set_self (by rw [wipe_length]; exact hl)]
    · rw [List.getElem?_set_ne e]
      exact wipe_in (by rcases List.mem_cons.mp h with z | z; exact absurd z.symm e; exact z) hl
theorem Off.wipe {vs : List Nat} {σ σ' : St} (h : Off vs (wipe σ vs) σ') : wipe σ' vs = wipe σ vs := by
  apply List.ext_getElem?
  intro j
  have hl : σ'.length = σ.length := by rw [h.1, wipe_length]
  by_cases hj : j ∈ vs
  · by_cases hb : j < σ.length
    · rw [wipe_in hj hb, wipe_in hj (by rw [hl]; exact hb)]
    · rw [List.getElem?_eq_none (by rw [wipe_length, hl]; omega), List.getElem?_eq_none (by rw [wipe_length]; omega)]
  · rw [wipe_out hj, h.2 j hj]
theorem Wd.freeze {p : Pn} {a : Addr} {o : HO} (w : Wd S pen G H p) (h : H a = some o) (hg : G a = none) (hp : a ≠ pen) (ht : ∀ x, o ≠ .tbl x := by intro _ z; cases z) : Wd S pen (upd G a o) H p := by
  obtain ⟨l, e, c⟩ := id w.pn
  have tn : ∀ q ∈ S.T, q.1 ≠ a := fun q hq z => by
    obtain ⟨ps, hP, _⟩ := w.tabs q hq
    rw [z, h] at hP; exact ht _ (Option.some.inj hP)
  refine ⟨fun b u q => ?_, ?_, ⟨l, e, Sub.alloc hg _ _ c⟩, w.tabs, fun q hq => by rw [upd_ne (tn q hq)]; exact w.gt q hq⟩
  · by_cases z : b = a
    · subst z; rw [upd_same] at q; rw [h]; exact q
    · rw [upd_ne z] at q; exact w.sub b u q
  · rw [upd_ne (Ne.symm hp)]; exact w.np
/-- an unfrozen object is written -/
theorem Wd.writeM {p : Pn} {a : Addr} {o u : HO} (w : Wd S pen G H p) (h : H a = some u) (hu : ∀ x, u ≠ .tbl x) (hx : ∀ (c : Addr) (q : Str), u ≠ LamX.CodeO c q) (hg : G a = none) (hp : a ≠ pen) : Wd S pen G (upd H a o) p := by
  obtain ⟨l, e, c⟩ := id w.pn
  refine ⟨fun b v q => ?_, w.np, ⟨l, by rw [upd_ne (Ne.symm hp)]; exact e, c⟩, fun t ht => ?_, w.gt⟩
  · have : b ≠ a := fun z => by rw [z, hg] at q; cases q
    rw [upd_ne this]; exact w.sub b v q
  · obtain ⟨ps, h1, h2, h3⟩ := w.tabs t ht
    refine ⟨ps, ?_, h2, fun pos cv hc => ?_⟩
    · have : t.1 ≠ a := fun z => by rw [z, h] at h1; exact hu ps (Option.some.inj h1)
      rw [upd_ne this]; exact h1
    · obtain ⟨c', e1, e2⟩ := h3 pos cv hc
      have : c' ≠ a := fun z => by rw [z, h] at e2; exact hx _ _ (Option.some.inj e2)
      exact ⟨c', e1, by rw [upd_ne this]; exact e2⟩
theorem lst_code {xs : List V} (c : Addr) (q : Str) : HO.lst xs ≠ LamX.CodeO c q := by intro z; cases z
end
section
variable {X : Cx} {m : Am} {pos : Pos}
theorem mts_nil : PTs X [] (tT m mYes) := by
  have h0 := pts_nil (X := X)
  refine ⟨fun pins s σ H Q I h => h0.run pins s σ H Q I ?_⟩
  obtain ⟨G, p, δ, _, w, sl, _, h5⟩ := h
  exact h5 true G H Ex.refl w rfl
theorem mts_one {c : Expr} {t : TX} (h : PT X c (tT m t)) : PTs X [c] (tT m t) := pts_one h
theorem tLc_of {own : List (Str × Nat)} {f : DS → M (List D)} {g : GX} {t : TX} {e : EX} {σ : St} {H : Hp} {Q : VK} (h : tE m (mComp f g t e (own.map (·.2))) σ H Q) :
    tLc (tI m f) (tG m.nox (own.map (·.2)) g) (tT m.nox t) (tE m.nox e) (own.map (·.2)) σ H Q := by
  refine (tY_bind (R1 := rIt m) r0_mono h).imp fun J H1 h2 => ?_
  obtain ⟨G1, p1, δ, ⟨_, ds⟩, w1, sl1, ⟨_, it⟩, q1⟩ := h2
  have it : ItR m G1 J ds := it
  intro L hL
  have nL : L ≠ m.pen := w1.ne hL
  have gL : G1 L = none := w1.gfree hL
  let W : Nat → Nat → Hp → Prop := fun i n H => n = ds.length - i ∧ i ≤ ds.length ∧ ∃ G p acc us, Wd m.S m.pen G H p ∧ Ex m.pen G1 H1 G H ∧ G L = none ∧ H L = some (.lst us) ∧ Reps m.S G m.pen us acc ∧
    Post m.S m.pen m.rE G1 H1 Q (fun c d H' => m.W c d σ H') (compGo g t e (wipeD δ (own.map (·.2))) (ds.drop i) acc p)
  refine ⟨W, ⟨_, rfl, Nat.zero_le _, G1, p1, [], [], w1.allocM hL, Ex.allocM hL, gL, upd_same, .nil, q1⟩, ?_⟩
  rintro i n H2 ⟨rfl, hle, G, p, acc, us, w, x, gl, hl, ra, q⟩
  obtain ⟨go, st⟩ := it G H2 p x.sub w
  by_cases hi : i < ds.length
  · right
    have hd : ds[i]? = some ds[i] := List.getElem?_eq_getElem hi
    obtain ⟨g1, g2⟩ := go i _ hd
    refine ⟨g1, W (i + 1) (ds.length - (i + 1)), fun H' hN => ⟨_, by omega, hN⟩, fun y H' hy => ?_⟩
    obtain ⟨G'', x'', w'', r''⟩ := g2 y H' hy
    rw [List.drop_eq_getElem_cons hi] at q
    dsimp only [compGo] at q
    cases hg' : g ds[i] (wipeD δ (own.map (·.2))) with
    | none => rw [hg'] at q; exact q.elim
    | some δ' =>
      rw [hg'] at q
      dsimp only at q
      refine ⟨G'', p, _, ds[i], w'', (sl1.ex (x.trans x'')).wipe _, r'', δ', hg', fun σ' o' sl' => ⟨o'.wipe, G'', p, δ', (), w'', sl', trivial, ?_⟩⟩
      dsimp only [M.bnd, M.calm] at q ⊢
      rcases hs' : t δ' p with _ | ⟨o, p2⟩
      · rw [hs'] at q; exact q.elim
      · rw [hs'] at q
        cases o with
        | ex c fs => exact q.elim
        | ok b =>
          intro b' G3 H3 x3 w3 eb
          have eb : b' = b := eb
          subst eb
          dsimp only at q
          have x13 := (x.trans x'').trans x3
          have hl3 : H3 L = some (.lst us) := x3.keep L _ nL (by intro _ z; cases z) (x''.keep L _ nL (by intro _ z; cases z) hl)
          have gl3 : G3 L = none := x3.un L (x''.un L gl (by rw [hl]; simp)) (by rw [x''.keep L _ nL (by intro _ z; cases z) hl]; simp)
          cases b' with
          | false => exact ⟨rfl, hi, G3, p2, acc, us, w3, x13, gl3, hl3, ra.mono (x''.sub.trans x3.sub), q⟩
          | true =>
            simp only [if_true] at q ⊢
            refine ⟨G3, p2, δ', (), w3, sl'.ex x3, trivial, ?_⟩
            dsimp only [M.bnd, M.calm] at q ⊢
            rcases he' : e δ' p2 with _ | ⟨o, p4⟩
            · rw [he'] at q; exact q.elim
            · rw [he'] at q
              cases o with
              | ex c fs => exact q.elim
              | ok dy =>
                intro v G4 H4 x4 w4 rv
                dsimp only at q
                split at q
                · rename_i hlt
                  have hl4 : H4 L = some (.lst us) := x4.keep L _ nL (by intro _ z; cases z) hl3
                  have gl4 : G4 L = none := x4.un L gl3 (by rw [hl3]; simp)
                  have r4 := ra.mono ((x''.sub.trans x3.sub).trans x4.sub)
                  refine ⟨us, hl4, by rw [r4.length, sizeLine_eq]; exact of_decide_eq_true hlt, rfl, hi, G4, p4, acc ++ [dy], us ++ [v], w4.writeM hl4 (by intro _ z; cases z) (fun c q => lst_code c q) gl4 nL, ?_, gl4, upd_same, r4.append (.cons rv .nil), q⟩
                  have x14 := x13.trans x4
                  refine ⟨x14.sub, fun b o hb ht e => ?_, fun b e => ?_, x14.un⟩
                  · have : b ≠ L := fun z => by rw [z, hL] at e; cases e
                    rw [upd_ne this]; exact x14.keep b o hb ht e
                  · by_cases z : b = L
                    · rw [z]; exact hL
                    · rw [upd_ne z] at e; exact x14.dom b e
                · exact q.elim
  · left
    have : i = ds.length := by omega
    subst this
    refine ⟨st _ (Nat.le_refl _), ?_⟩
    rw [List.drop_length] at q
    dsimp only [compGo] at q
    split at q
    · refine q (.ref L) (upd G L (.lst us)) H2 ⟨x.sub.trans (Sub.alloc gl), x.keep, x.dom, fun b e n => ?_⟩ (w.freeze hl gl nL) (.lst upd_same (ra.mono (Sub.alloc gl)))
      have : b ≠ L := fun z => n (by rw [z]; exact hL)
      rw [upd_ne this]; exact x.un b e n
    · exact q.elim
theorem me_lc {elt tg iter : Expr} {ifs : List Expr} {scope : Scope} {own : List (Str × Nat)} {f : DS → M (List D)} {g : GX} {t : TX} {e : EX} (hc : X.calm = true) (hN : X.N.Nodup) (hi : PI X tg iter (tI m f)) (ok : BlkOk X.N X.env.scope scope own)
    (hg : ∀ (s : Shared) (H : Hp) (C : Addr) (cl : List (Str × Addr)) (fp : List Addr), PG (X.blk s H scope (compEnvC scope cl C X.env) fp) tg (tG m.nox (own.map (·.2)) g))
    (ht : ∀ (s : Shared) (H : Hp) (C : Addr) (cl : List (Str × Addr)) (fp : List Addr), PTs (X.blk s H scope (compEnvC scope cl C X.env) fp) ifs (tT m.nox t))
    (he : ∀ (s : Shared) (H : Hp) (C : Addr) (cl : List (Str × Addr)) (fp : List Addr), PE (X.blk s H scope (compEnvC scope cl C X.env) fp) elt (tE m.nox e)) (hs : ∀ x, foldedSetIterable iter X.env x = pure x := by intro _; rfl) :
    PE X (.ListComp elt [⟨tg, iter, ifs, 0⟩] scope pos) (tE m (mComp f g t e (own.map (·.2)))) := by
  exact PE.imp (pe_lc hc hN hi ok hg ht he hs) fun σ H Q h => tLc_of h
/-- y = [e for ..] -/
theorem ms_setLc {i : Nat} {y : Str} {py spos : Pos} {elt tg iter : Expr} {ifs : List Expr} {scope : Scope} {own : List (Str × Nat)} {f : DS → M (List D)} {g : GX} {t : TX} {e : EX} (hc : X.calm = true) (hN : X.N.Nodup) (hy : X.N[i]? = some y) (hyl : X.env.scope.names.lookup y = some .local)
    (hsw : swapsWith (.ListComp elt [⟨tg, iter, ifs, 0⟩] scope pos) (some (.Name y py)) spos.line X.env = pure true) (hi : PI X tg iter (tI m f)) (ok : BlkOk X.N X.env.scope scope own)
    (hg : ∀ (s : Shared) (H : Hp) (C : Addr) (cl : List (Str × Addr)) (fp : List Addr), PG (X.blk s H scope (compEnvC scope cl C X.env) fp) tg (tG m.nox (own.map (·.2)) g))
    (ht : ∀ (s : Shared) (H : Hp) (C : Addr) (cl : List (Str × Addr)) (fp : List Addr), PTs (X.blk s H scope (compEnvC scope cl C X.env) fp) ifs (tT m.nox t))
    (he : ∀ (s : Shared) (H : Hp) (C : Addr) (cl : List (Str × Addr)) (fp : List Addr), PE (X.blk s H scope (compEnvC scope cl C X.env) fp) elt (tE m.nox e)) (hs : ∀ x, foldedSetIterable iter X.env x = pure x := by intro _; rfl) :
    PS X (.Assign [.Name y py] (.ListComp elt [⟨tg, iter, ifs, 0⟩] scope pos) spos) (tS m (sSet i (mComp f g t e (own.map (·.2))))) := by
  refine PS.imp (ps_setLc hc hN hy hyl hsw hi ok hg ht he hs) fun K σ H h => ?_
  refine tLc_of ?_
  exact (tS_bind (R := m.rE) h).imp fun v H1 ⟨a, G, p, δ, w, x, sl, r, q⟩ => q _ G H1 (Sub.refl _) w x (sl.set r)
end
end ME

namespace ME
open PySem PySem.Spec L2

/-! ### lists that are being made -/
def sNewL (i : Nat) (ra : AX) : SX := sBnd ra fun ds δ p => if szOk ds.length then some (.nx (δ.set i (some (.ml ds))), p) else none
def sApp (i : Nat) (e : EX) : SX := fun δ p => match δ[i]? with
  | some (some (.ml xs)) => sBnd e (fun d δ p => if decide (xs.length < 16777216) then some (.nx (δ.set i (some (.ml (xs ++ [d])))), p) else none) δ p
  | _ => none
def sFrz (i : Nat) (s : SX) : SX := fun δ p => match δ[i]? with
  | some (some (.ml xs)) => s (δ.set i (some (.d (.lst xs)))) p
  | _ => none
section
variable {S : Sg} {pen : Addr} {B G H : Hp} {σ : St} {δ : DS} {i : Nat}
theorem set_old {s0 : Option Sl} {j : Nat} {s : Sl} (e : (δ.set i s0)[j]? = some (some s)) : (j = i ∧ s0 = some s ∧ i < δ.length) ∨ (j ≠ i ∧ δ[j]? = some (some s)) := by
  by_cases hj : i = j
  · subst hj
    rw [List.getElem?_set] at e
    simp only [if_true] at e
    split at e
    · rename_i hl; exact .inl ⟨rfl, Option.some.inj e, hl⟩
    · cases e
  · rw [List.getElem?_set_ne hj] at e
    exact .inr ⟨Ne.symm hj, e⟩
theorem SlR.setMl {l : Addr} {vs : List V} {xs : List D} (sl : SlR S pen B G H σ δ) (h : H l = some (.lst vs)) (r : Reps S G pen vs xs) (hg : G l = none) (hb : B l = none) (hp : l ≠ pen)
    (ne : ∀ (j : Nat) s, j ≠ i → δ[j]? = some (some s) → (∀ x, s ≠ .d x) → σ[j]? ≠ some (some (.ref l))) : SlR S pen B G H (σ.set i (some (.ref l))) (δ.set i (some (.ml xs))) := by
  have same : ∀ (j : Nat), j ≠ i → (σ.set i (some (V.ref l)))[j]? = σ[j]? := fun j hj => List.getElem?_set_ne (Ne.symm hj)
  refine ⟨by simp [sl.len], fun j x e => ?_, fun j ys e => ?_, fun j ys e => ?_, fun j c ys e => ?_, fun j k s t a e1 e2 n1 n2 f1 f2 => ?_⟩
  · rcases set_old e with ⟨_, z, _⟩ | ⟨hj, e'⟩
    · cases z
    · rw [same j hj]; exact sl.val j x e'
  · rcases set_old e with ⟨hj, z, hl⟩ | ⟨hj, e'⟩
    · cases z
      subst hj
      exact ⟨l, vs, by rw [List.getElem?_set_self (by rw [sl.len]; exact hl)], h, r, hg, hb, hp⟩
    · rw [same j hj]; exact sl.ml j ys e'
  · rcases set_old e with ⟨_, z, _⟩ | ⟨hj, e'⟩
    · cases z
    · rw [same j hj]; exact sl.md j ys e'
  · rcases set_old e with ⟨_, z, _⟩ | ⟨hj, e'⟩
    · cases z
    · rw [same j hj]; exact sl.mo j c ys e'
  · rcases set_old e1 with ⟨hj, z, hl⟩ | ⟨hj, e1'⟩
    · rcases set_old e2 with ⟨hk, _, _⟩ | ⟨hk, e2'⟩
      · rw [hj, hk]
      · rw [hj, List.getElem?_set_self (by rw [sl.len]; exact hl)] at f1
        cases f1
        rw [same k hk] at f2
        exact absurd f2 (ne k t hk e2' n2)
    · rcases set_old e2 with ⟨hk, z, hl⟩ | ⟨hk, e2'⟩
      · rw [hk, List.getElem?_set_self (by rw [sl.len]; exact hl)] at f2
        cases f2
        rw [same j hj] at f1
        exact absurd f1 (ne j s hj e1' n1)
      · rw [same j hj] at f1
        rw [same k hk] at f2
        exact sl.inj j k s t a e1' e2' n1 n2 f1 f2
/-- what stands at the address of a slot that is being made -/
theorem SlR.at {j : Nat} {s : Sl} (sl : SlR S pen B G H σ δ) (e : δ[j]? = some (some s)) (n : ∀ x, s ≠ .d x) : ∃ l o, σ[j]? = some (some (.ref l)) ∧ H l = some o ∧ G l = none ∧ l ≠ pen ∧ (∀ x, o ≠ .tbl x) ∧ ∀ c q, o ≠ LamX.CodeO c q := by
  cases s with
  | d x => exact absurd rfl (n x)
  | ml xs => obtain ⟨l, vs, h1, h2, _, h4, _, h6⟩ := sl.ml j xs e; exact ⟨l, _, h1, h2, h4, h6, (by intro _ z; cases z), (by intro _ _ z; cases z)⟩
  | md xs => obtain ⟨l, vs, h1, h2, _, h4, _, h6⟩ := sl.md j xs e; exact ⟨l, _, h1, h2, h4, h6, (by intro _ z; cases z), (by intro _ _ z; cases z)⟩
  | mo c xs => obtain ⟨l, dx, vs, h1, h2, _, _, h4, h6⟩ := sl.mo j c xs e; exact ⟨l, _, h1, h2, h4, h6.1, (by intro _ z; cases z), (by intro _ _ z; cases z)⟩
/-- the object of slot i is written: the other slots stay -/
theorem SlR.other {l : Addr} {o : HO} {s0 : Sl} (sl : SlR S pen B G H σ δ) (ei : δ[i]? = some (some s0)) (n0 : ∀ x, s0 ≠ .d x) (ai : σ[i]? = some (some (.ref l))) : SlR S pen B G (upd H l o) σ (δ.set i none) := by
  have ne : ∀ (j : Nat) s a, j ≠ i → δ[j]? = some (some s) → (∀ x, s ≠ .d x) → σ[j]? = some (some (.ref a)) → a ≠ l := fun j s a hj e n f z => by
    subst z
    exact hj (sl.inj j i s s0 a e ei n n0 f ai)
  refine ⟨by simp [sl.len], fun j x e => ?_, fun j ys e => ?_, fun j ys e => ?_, fun j c ys e => ?_, fun j k s t a e1 e2 n1 n2 f1 f2 => ?_⟩
  · rcases set_old e with ⟨_, z, _⟩ | ⟨hj, e'⟩
    · cases z
    · exact sl.val j x e'
  · rcases set_old e with ⟨_, z, _⟩ | ⟨hj, e'⟩
    · cases z
    · obtain ⟨a, vs, h1, h2, h3⟩ := sl.ml j ys e'
      exact ⟨a, vs, h1, by rw [upd_ne (ne j _ a hj e' (by intro _ z; cases z) h1)]; exact h2, h3⟩
  · rcases set_old e with ⟨_, z, _⟩ | ⟨hj, e'⟩
    · cases z
    · obtain ⟨a, vs, h1, h2, h3⟩ := sl.md j ys e'
      exact ⟨a, vs, h1, by rw [upd_ne (ne j _ a hj e' (by intro _ z; cases z) h1)]; exact h2, h3⟩
  · rcases set_old e with ⟨_, z, _⟩ | ⟨hj, e'⟩
    · cases z
    · obtain ⟨a, dx, vs, h1, h2, h3⟩ := sl.mo j c ys e'
      exact ⟨a, dx, vs, h1, by rw [upd_ne (ne j _ a hj e' (by intro _ z; cases z) h1)]; exact h2, h3⟩
  · rcases set_old e1 with ⟨_, z, _⟩ | ⟨hj, e1'⟩
    · cases z
    · rcases set_old e2 with ⟨_, z, _⟩ | ⟨hk, e2'⟩
      · cases z
      · exact sl.inj j k s t a e1' e2' n1 n2 f1 f2
theorem set_same {α : Type} {l : List α} {j : Nat} {x y : α} : (l.set j x).set j y = l.set j y := by
  apply List.ext_getElem?
  intro k
  by_cases h : j = k
  · subst h
    simp [List.getElem?_set]
  · rw [List.getElem?_set_ne h, List.getElem?_set_ne h, List.getElem?_set_ne h]
theorem set_id {α : Type} {l : List α} {j : Nat} {x : α} (h : l[j]? = some x) : l.set j x = l := by
  apply List.ext_getElem?
  intro k
  by_cases e : j = k
  · subst e
    have := (List.getElem?_eq_some_iff.mp h).1
    rw [List.getElem?_set_self this, h]
  · rw [List.getElem?_set_ne e]
/-- the list of slot i is frozen -/
theorem SlR.freezeL {l : Addr} {vs : List V} {xs : List D} (sl : SlR S pen B G H σ δ) (ei : δ[i]? = some (some (.ml xs))) (ai : σ[i]? = some (some (.ref l))) (h : H l = some (.lst vs)) (r : Reps S G pen vs xs) (hg : G l = none) : SlR S pen B (upd G l (.lst vs)) H σ (δ.set i (some (.d (.lst xs)))) := by
  have ne : ∀ (j : Nat) s a, j ≠ i → δ[j]? = some (some s) → (∀ x, s ≠ .d x) → σ[j]? = some (some (.ref a)) → a ≠ l := fun j s a hj e n f z => by
    subst z
    exact hj (sl.inj j i s _ a e ei n (by intro _ z; cases z) f ai)
  have sb : Sub G (upd G l (.lst vs)) := Sub.alloc hg
  refine ⟨by simp [sl.len], fun j x e => ?_, fun j ys e => ?_, fun j ys e => ?_, fun j c ys e => ?_, fun j k s t a e1 e2 n1 n2 f1 f2 => ?_⟩
  · rcases set_old e with ⟨hj, z, _⟩ | ⟨hj, e'⟩
    · cases z
      subst hj
      exact ⟨_, ai, .lst upd_same (r.mono sb)⟩
    · obtain ⟨v, h1, h2⟩ := sl.val j x e'
      exact ⟨v, h1, h2.mono sb⟩
  · rcases set_old e with ⟨_, z, _⟩ | ⟨hj, e'⟩
    · cases z
    · obtain ⟨a, us, h1, h2, h3, h4, h5⟩ := sl.ml j ys e'
      exact ⟨a, us, h1, h2, h3.mono sb, by rw [upd_ne (ne j _ a hj e' (by intro _ z; cases z) h1)]; exact h4, h5⟩
  · rcases set_old e with ⟨_, z, _⟩ | ⟨hj, e'⟩
    · cases z
    · obtain ⟨a, us, h1, h2, h3, h4, h5⟩ := sl.md j ys e'
      exact ⟨a, us, h1, h2, h3.mono sb, by rw [upd_ne (ne j _ a hj e' (by intro _ z; cases z) h1)]; exact h4, h5⟩
  · rcases set_old e with ⟨_, z, _⟩ | ⟨hj, e'⟩
    · cases z
    · obtain ⟨a, dx, us, h1, h2, h3, h3', h4, h5⟩ := sl.mo j c ys e'
      exact ⟨a, dx, us, h1, h2, h3.mono sb, h3', by rw [upd_ne (ne j _ a hj e' (by intro _ z; cases z) h1)]; exact h4, h5⟩
  · rcases set_old e1 with ⟨_, z, _⟩ | ⟨hj, e1'⟩
    · cases z; exact absurd rfl (n1 _)
    · rcases set_old e2 with ⟨_, z, _⟩ | ⟨hk, e2'⟩
      · cases z; exact absurd rfl (n2 _)
      · exact sl.inj j k s t a e1' e2' n1 n2 f1 f2
end
section
variable {X : Cx} {m : Am} {pos : Pos} {i : Nat} {x : Str}
/-- first an expression, the slots told -/
theorem tS_step {α β : Type} {R : Rl β α} {f : DS → M α} {k : α → SX} {K : Ends} {σ : St} {G H : Hp} {p : Pn} {δ : DS} (w : Wd m.S m.pen G H p) (x : Ex m.pen m.G0 m.B G H) (sl : SlR m.S m.pen m.B G H σ δ) (h : PostS m K G (sBnd f k δ p)) :
    tY m r0 R () (fun _ => f) σ H (fun b H1 => ∃ a G1 p1, Wd m.S m.pen G1 H1 p1 ∧ Ex m.pen G H G1 H1 ∧ R G1 b a ∧ PostS m K G1 (k a δ p1)) := by
  refine ⟨G, p, δ, (), w, sl, trivial, ?_⟩
  dsimp only [sBnd] at h ⊢
  rcases he : f δ p with _ | ⟨o, p1⟩
  · rw [he] at h; exact h
  · rw [he] at h
    cases o with
    | ok a => exact fun v G' H' x' w' r => ⟨a, G', p1, w', x', r, h.mono x'.sub⟩
    | ex c fs => exact fun d G' H' x' w' r => h d σ G' H' x'.sub w' (x.trans x') (sl.ex x') r
/-- x = [..], a list that is being made -/
theorem ms_newL {es : List Expr} {ra : AX} {pos' pos2 : Pos} (hN : X.N.Nodup) (hi : X.N[i]? = some x) (hx : Loc X.env.scope x) (h : PA X es (tAs m ra)) (hs : swapsWith (.List es pos2) (some (.Name x pos')) pos.line X.env = pure false := by rfl) (hf : X.fn x = true ∨ X.env.scope.names.lookup x = some .local := by first | exact .inl rfl | exact .inr rfl | assumption) :
    PS X (.Assign [.Name x pos'] (.List es pos2) pos) (tS m (sNewL i ra)) := by
  refine PS.imp (ps_set hN hi hx (pe_lst h) hs hf) fun K σ H h => ?_
  refine (tS_bind (R := m.rA) h).imp fun vs H1 ⟨ds, G, p, δ, w, x, sl, r, q⟩ => ?_
  have r : Reps m.S G m.pen vs ds := r
  split at q
  · rename_i hz
    refine ⟨by rw [r.length]; exact szOk_le hz, fun a ha => ?_⟩
    have xa : Ex m.pen G H1 G (upd H1 a (.lst vs)) := Ex.allocM ha
    refine q _ G _ (Sub.refl _) (w.allocM ha) (x.trans xa) ((sl.ex xa).setMl upd_same r (w.gfree ha) (x.dom a ha) (w.ne ha) fun j s hj e n z => ?_)
    obtain ⟨l, o, h1, h2, _⟩ := sl.at e n
    rw [h1] at z
    cases z
    rw [ha] at h2; cases h2
  · exact q.elim
/-- x.append(e) -/
theorem ms_app {e : Expr} {ea : EX} {p1 p2 p3 : Pos} (hN : X.N[i]? = some x) (hv : Vis X.env.scope x) (hK : X.K = m.S.K) (he : PE X e (tE m ea)) (hd : (x == ("__debug__" : Str)) = false := by decide) (hcd : (x == ("__classdict__" : Str)) = false := by decide)
    (hs : swapsWith (.Call (.Attribute (.Name x p1) "append" p2) [e] [] p3) none pos.line X.env = pure false := by rfl)
    (hbase : attributeBase (.Name x p1) "append" X.env (eval (.Name x p1) X.env) = eval (.Name x p1) X.env := by rfl)
    (hfew : ((backTo p3 (starEach [e] X.env)).all (fun x => !x.1) && (backToKw p3 (keywordEach [] X.env)).all (fun x => x.1.isSome)
      && decide ([e].length + ([] : List Keyword).length + (if ([] : List Keyword).isEmpty then 0 else 1) < 30)) = true := by rfl)
    (hline : (p2.endLine == p3.line) = true := by rfl) (hst : starEach [e] X.env = (false, eval e X.env) :: starEach [] X.env := by rfl) (hplain : (backTo p3 (starEach [] X.env)).any (·.1) = false := by rfl) :
    PS X (.Expr (.Call (.Attribute (.Name x p1) "append" p2) [e] [] p3) pos) (tS m (sApp i ea)) := by
  have base := ps_expr (pos := pos) (pe_bm (cpos := p3) (apos := p2) PySem.F.plainAttrs_list PySem.F.slot_list_append PySem.F.type_list_append mt_append (pe_var (pos := p1) hN hv hd hcd) (pa_cons he pa_nil hst) hbase hfew hline hst hplain) hs
  refine PS.imp base fun K σ H h => ?_
  obtain ⟨G, p, δ, w, x, sl, h⟩ := h
  dsimp only [sApp] at h
  split at h
  · rename_i xs ei
    obtain ⟨l, vs, e1, e2, r, e4, e5, e6⟩ := sl.ml i xs ei
    refine ⟨.ref l, e1, .inl ⟨rfl, vs, .of e2⟩, ?_⟩
    refine (tS_step (R := m.rE) w x sl h).imp fun v H1 ⟨d, G1, p1, w1, x1, rv, q⟩ => ?_
    split at q
    · rename_i hz
      have hl : H1 l = some (.lst vs) := x1.keep l _ e6 (by intro _ z; cases z) e2
      have gl : G1 l = none := x1.un l e4 (by rw [e2]; simp)
      have r1 := r.mono x1.sub
      refine ⟨l, vs, v, rfl, rfl, hl, by rw [r.length, sizeLine_eq]; exact of_decide_eq_true hz, ?_⟩
      have w2 : Wd m.S m.pen G1 (upd H1 l (.lst (vs ++ [v]))) p1 := w1.writeM hl (by intro _ z; cases z) (fun c q => lst_code c q) gl e6
      have x02 : Ex m.pen m.G0 m.B G1 (upd H1 l (.lst (vs ++ [v]))) := by
        have x01 := x.trans x1
        refine ⟨x01.sub, fun b o hb ht e => ?_, fun b e => ?_, x01.un⟩
        · have : b ≠ l := fun z => by rw [z, e5] at e; cases e
          rw [upd_ne this]; exact x01.keep b o hb ht e
        · by_cases z : b = l
          · rw [z]; exact e5
          · rw [upd_ne z] at e; exact x01.dom b e
      have s1 := sl.ex x1
      have s2 := (s1.other (o := .lst (vs ++ [v])) ei (by intro _ z; cases z) e1).setMl (i := i) (l := l) upd_same (r1.append (.cons rv .nil)) gl e5 e6 fun j s hj e n z => by
        rcases set_old e with ⟨_, q, _⟩ | ⟨hj', e'⟩
        · cases q
        · exact hj (s1.inj j i s _ l e' ei n (by intro _ z; cases z) z e1)
      rw [set_same, set_id e1] at s2
      exact q σ G1 _ (Sub.refl _) w2 x02 s2
    · exact q.elim
  · exact h.elim
theorem mss_frz {sts : List Stmt} {s : SX} (h : PSs X sts (tS m s)) : PSs X sts (tS m (sFrz i s)) := by
  refine PSs.imp h fun K σ H ⟨G, p, δ, w, x, sl, h⟩ => ?_
  dsimp only [sFrz] at h
  split at h
  · rename_i xs ei
    obtain ⟨l, vs, e1, e2, r, e4, e5, e6⟩ := sl.ml i xs ei
    refine ⟨upd G l (.lst vs), p, _, w.freeze e2 e4 e6, ⟨x.sub.trans (Sub.alloc e4), x.keep, x.dom, fun b hb n => ?_⟩, sl.freezeL ei e1 e2 r e4, h.mono (Sub.alloc e4)⟩
    have : b ≠ l := fun z => n (by rw [z]; exact e5)
    rw [upd_ne this]; exact x.un b hb n
  · exact h.elim
end
end ME

namespace ME
open PySem PySem.Spec L2

/-! ### a, b = x, y -/
def sPar2 (i j : Nat) (ra : AX) : SX := sBnd ra fun ds δ p => match ds with
  | [a, b] => some (.nx ((δ.set i (some (.d a))).set j (some (.d b))), p)
  | _ => none
def sPar3 (i j l : Nat) (ra : AX) : SX := sBnd ra fun ds δ p => match ds with
  | [a, b, c] => some (.nx (((δ.set i (some (.d a))).set j (some (.d b))).set l (some (.d c))), p)
  | _ => none
section
variable {X : Cx} {m : Am} {pos : Pos}
theorem ms_par2 {i j : Nat} {x y : Str} {a b : Expr} {ra : AX} {px py pt : Pos} {kt k2 pt2} (hc : X.calm = true) (hN : X.N.Nodup) (hi : X.N[i]? = some x) (hj : X.N[j]? = some y) (hij : i ≠ j) (hx : X.env.scope.names.lookup x = some .local) (hy : X.env.scope.names.lookup y = some .local) (ha : PA X [a, b] (tAs m ra))
    (hw : swappedStores [.Tuple [.Name x px, .Name y py] kt pt] (.Tuple [a, b] k2 pt2) X.env = pure (some [x, y])) (hs : swapsWithSole [.Tuple [.Name x px, .Name y py] kt pt] (.Tuple [a, b] k2 pt2) pos.line X.env = pure false := by rfl) :
    PS X (.Assign [.Tuple [.Name x px, .Name y py] kt pt] (.Tuple [a, b] k2 pt2) pos) (tS m (sPar2 i j ra)) := by
  refine PS.imp (ps_par hc hN hi hj hij hx hy ha hw hs) fun K σ H h => ?_
  refine (tS_bind (R := m.rA) h).imp fun vs H1 ⟨ds, G, p, δ, w, x, sl, r, q⟩ => ?_
  have r : Reps m.S G m.pen vs ds := r
  split at q
  · cases r with
    | cons r1 r2 => cases r2 with
      | cons r2 r3 =>
        cases r3
        exact ⟨_, _, rfl, q _ G H1 (Sub.refl _) w x ((sl.set r1).set r2)⟩
  · exact q.elim
theorem ms_par3 {i j l : Nat} {x y z : Str} {a b c : Expr} {ra : AX} {px py pz pt : Pos} {kt k2 pt2} (hc : X.calm = true) (hN : X.N.Nodup) (hi : X.N[i]? = some x) (hj : X.N[j]? = some y) (hl : X.N[l]? = some z) (hij : i ≠ j) (hil : i ≠ l) (hjl : j ≠ l)
    (hx : X.env.scope.names.lookup x = some .local) (hy : X.env.scope.names.lookup y = some .local) (hz : X.env.scope.names.lookup z = some .local) (ha : PA X [a, b, c] (tAs m ra))
    (hw : swappedStores [.Tuple [.Name x px, .Name y py, .Name z pz] kt pt] (.Tuple [a, b, c] k2 pt2) X.env = pure (some [x, y, z])) (hs : swapsWithSole [.Tuple [.Name x px, .Name y py, .Name z pz] kt pt] (.Tuple [a, b, c] k2 pt2) pos.line X.env = pure false := by rfl) :
    PS X (.Assign [.Tuple [.Name x px, .Name y py, .Name z pz] kt pt] (.Tuple [a, b, c] k2 pt2) pos) (tS m (sPar3 i j l ra)) := by
  refine PS.imp (ps_par3 hc hN hi hj hl hij hil hjl hx hy hz ha hw hs) fun K σ H h => ?_
  refine (tS_bind (R := m.rA) h).imp fun vs H1 ⟨ds, G, p, δ, w, x, sl, r, q⟩ => ?_
  have r : Reps m.S G m.pen vs ds := r
  split at q
  · cases r with
    | cons r1 r2 => cases r2 with
      | cons r2 r3 => cases r3 with
        | cons r3 r4 =>
          cases r4
          exact ⟨_, _, _, rfl, q _ G H1 (Sub.refl _) w x (((sl.set r1).set r2).set r3)⟩
  · exact q.elim
/-! ### names of the module, classes, types -/
theorem me_gcls {x : Str} {c : Nat} (hg : Gl X x) (hm : X.mg x = some (.ref (m.S.ca c))) (hd : (x == ("__debug__" : Str)) = false := by decide) : PE X (.Name x pos) (tE m (mC (.cls c))) := me_c (pe_glob (v := .ref (m.S.ca c)) hg hm rfl hd) fun _ => .cls c
theorem me_gint {x : Str} {i : Int} {t : Tok} (hg : Gl X x) (hm : X.mg x = some (.int i t)) (hd : (x == ("__debug__" : Str)) = false := by decide) : PE X (.Name x pos) (tE m (mC (.int i))) := me_c (pe_glob (v := .int i) hg hm ⟨t, rfl⟩ hd) fun _ => .int i
theorem me_gstr {x : Str} {i : Str} {t : Tok} (hg : Gl X x) (hm : X.mg x = some (.str i t)) (hd : (x == ("__debug__" : Str)) = false := by decide) : PE X (.Name x pos) (tE m (mC (.str i))) := me_c (pe_glob (v := .str i) hg hm ⟨t, rfl⟩ hd) fun _ => .str i
theorem me_ty {x : Str} {n : String} (hg : Gl X x) (hm : X.mg x = none) (hv : bootBuiltins x = some (.type n)) (hn : x ≠ "__name__" := by decide) (hd : (x == ("__debug__" : Str)) = false := by decide) : PE X (.Name x pos) (tE m (mC (.ty n))) := me_c (pe_bltn (v := .ty n) hg hm hv rfl hn hd) fun _ => .ty n
end

/-! ### isinstance -/
def tyName : D → Option String
  | .non => some "NoneType"
  | .bl _ => some "bool"
  | .int _ => some "int"
  | .str _ => some "str"
  | .tup _ => some "tuple"
  | .lst _ => some "list"
  | .dct _ => some "dict"
  | _ => none
def tyNames : List String := ["NoneType", "bool", "int", "str", "tuple", "list", "dict"]
def tyGoals : List String := ["int", "bool", "str", "list", "tuple", "dict"]
def subB (a b : String) : Bool := a == b || (a == "bool" && b == "int")
theorem kit_all : ∀ a ∈ tyNames, ∀ n ∈ tyGoals, kitB a n = some (subB a n) := by decide +kernel
theorem tyName_in {d : D} {a : String} (h : tyName d = some a) : a ∈ tyNames := by
  cases d <;> first | (cases h; decide) | cases h
/-- the classes: those of plain objects, those of errors; which stands below which -/
structure IsT where
  os : List Nat
  xs : List Nat
  ts : List String
  sub : Nat → Nat → Bool
  subT : Nat → String → Bool
/-- what is below d's class -/
def isOne (T : IsT) (d : D) (t : D) : Option Bool := match t with
  | .ty n => match d with
    | .obj c _ => if T.os.contains c && T.ts.contains n then some (T.subT c n) else none
    | .exc c _ => if T.xs.contains c && T.ts.contains n then some (T.subT c n) else none
    | d => match tyName d with
      | some a => if tyGoals.contains n then some (subB a n) else none
      | none => none
  | .cls c' => match d with
    | .obj c _ => if T.os.contains c && (T.os.contains c' || T.xs.contains c') then some (T.sub c c') else none
    | .exc c _ => if T.xs.contains c && (T.os.contains c' || T.xs.contains c') then some (T.sub c c') else none
    | d => match tyName d with
      | some _ => if T.os.contains c' || T.xs.contains c' then some false else none
      | none => none
  | _ => none
def dIsi (T : IsT) : List D → M D
  | [d, t] => match isOne T d t with
    | some b => M.ret (.bl b)
    | none => M.stuck
  | _ => M.stuck
/-- an own class of plain objects, as isinstance asks it -/
structure OCl (K : PySem.W.Frag) (C : Addr) : Prop where
  cl : Cls K C
  ha : PySem.W.findIn K (.ref C) "__class__" = some (some (.builtin "object.__class__"))
  hn : PySem.W.specialIn K (.builtin "object.__class__") "__get__" = some (some (.builtin "getset_descriptor.__get__"))
  htk : PySem.W.takesIn K (.builtin "object.__class__") = some true
  hm : PySem.W.mroIn K C (.type "object") = some true
structure XOk (K : PySem.W.Frag) (C : Addr) : Prop where
  hcl : (PySem.W.clsIn K C).isSome = true
  hga : PySem.W.findIn K (.ref C) "__getattribute__" = some (some (.builtin "BaseException.__getattribute__"))
  hgt : PySem.W.findIn K (.ref C) "__getattr__" = some none
  hsub : PySem.W.subIn K (.ref C) (.type "BaseException") = some true
  ha : PySem.W.findIn K (.ref C) "__class__" = some (some (.builtin "object.__class__"))
  hn : PySem.W.specialIn K (.builtin "object.__class__") "__get__" = some (some (.builtin "getset_descriptor.__get__"))
  htk : PySem.W.takesIn K (.builtin "object.__class__") = some true
  hm : PySem.W.mroIn K C (.type "object") = some true
structure IsF (S : Sg) (T : IsT) : Prop where
  own : ∀ c, c ∈ T.os ∨ c ∈ T.xs → ∀ c', c' ∈ T.os ∨ c' ∈ T.xs → PySem.W.kitOne S.K (.ref (S.ca c)) (.ref (S.ca c')) = some (T.sub c c')
  ty : ∀ c, c ∈ T.os ∨ c ∈ T.xs → ∀ n ∈ T.ts, PySem.W.kitOne S.K (.ref (S.ca c)) (.type n) = some (T.subT c n)
  b : ∀ a ∈ tyNames, ∀ c', c' ∈ T.os ∨ c' ∈ T.xs → PySem.W.kitOne S.K (.type a) (.ref (S.ca c')) = some false
  oc : ∀ c ∈ T.os, OCl S.K (S.ca c)
  xc : ∀ c ∈ T.xs, XOk S.K (S.ca c)
section
variable {X : Cx} {m : Am}
/-- isinstance(e, c), e an exception that is kept -/
def rIsE (K : PySem.W.Frag) : List V → Hp → VK → Prop := fun xs H Q => ∃ (a C : Addr) (d : Option Addr) (c : V) (u : Value) (b : Bool), xs = [.ref a, c] ∧ ClsV c u ∧ H a = some (ExV a C d) ∧ (∀ x, d = some x → ∃ fs, H x = some (.xd fs)) ∧ XOk K C ∧ PySem.W.kitOne K (.ref C) u = some b ∧ Q (.bl b) H
theorem excInst {pins : List (Addr × Obj)} {s : Shared} {σ : St} {H : Hp} {a C : Addr} {d : Option Addr} (I : Inv X pins σ H s) (h : H a = some (ExV a C d)) (hd : ∀ x, d = some x → ∃ fs, H x = some (.xd fs)) : ∃ oe od, PySem.W.InstAt s.heap a oe C od ∧ oe.dict = d := by
  obtain ⟨⟨oe, vs, e1, z, e2⟩, _⟩ := I.hok a _ h
  have no : PySem.W.notCls oe = true := by
    obtain ⟨oc, odd, dt, sl⟩ := oe
    cases e2
    rfl
  cases d with
  | none => exact ⟨oe, none, ⟨e1, z.1, no, by rw [z.2]; trivial⟩, z.2⟩
  | some x =>
    obtain ⟨fs, hx⟩ := hd x rfl
    obtain ⟨mA, ⟨od, es, ep, e3, _⟩, _⟩ := I.hok x _ hx
    exact ⟨oe, some od, ⟨e1, z.1, no, by rw [z.2]; exact e3⟩, z.2⟩
theorem call_isE : CallR X (.builtin "isinstance") (rIsE X.K) := by
  intro pins s σ H xs us Q I r h
  obtain ⟨a, C, d, c, u, b, rfl, k, ha, hd, xo, e, q⟩ := h
  obtain ⟨u1, u2, rfl, r1, r2⟩ := vals2 r
  have e2 := k.eq r2
  subst e2
  cases (show u1 = Value.ref a from r1)
  obtain ⟨oe, od, ia, _⟩ := excInst I ha hd
  exact PySem.W.kia_one (PySem.W.kitx_exc (od := od) (ox := oe) xo.hcl xo.hga xo.hgt xo.hsub xo.ha xo.hn xo.htk xo.hm) I.kIn ia e (fun z => nomatch z) fun tk => ⟨.bl b, H, I.tok tk, rfl, q⟩
theorem tyX_of {G H : Hp} {p : Pn} {v : V} {d : D} {a : String} (w : Wd m.S m.pen G H p) (r : Rep m.S G m.pen v d) (h : tyName d = some a) : TyX m.S.K H v (.type a) := by
  cases r with
  | non => cases h; exact .base .non
  | bl b => cases h; exact .base (.bl b)
  | int b => cases h; exact .base (.int b)
  | str b => cases h; exact .base (.str b)
  | tup hq _ =>
    cases h
    rcases w.sub.sqt hq with (z | ⟨o, z⟩) | ⟨o, its, n, z, c, _⟩
    · exact .base (.tup z)
    · exact .fTuple z
    · exact .kTuple z c
  | lst hq _ => cases h; exact .base (.lst (w.sub _ _ hq))
  | dct hq _ => cases h; exact .base (.dK (w.sub _ _ hq))
  | _ => cases h
theorem or_of {T : IsT} {c : Nat} (h : (T.os.contains c || T.xs.contains c) = true) : c ∈ T.os ∨ c ∈ T.xs := by
  rcases Bool.or_eq_true _ _ ▸ h with z | z
  · exact .inl (List.contains_iff_mem.mp z)
  · exact .inr (List.contains_iff_mem.mp z)
theorem r_isi {T : IsT} (hK : X.K = m.S.K) (F : IsF m.S T) : RAOk m (fun xs H Q => rIsi X.K xs H Q ∨ rIsE X.K xs H Q) (dIsi T) := by
  rintro σ xs H Q ⟨G, p, δ, ⟨_, ds⟩, w, sl, ⟨_, r⟩, h⟩
  have r : Reps m.S G m.pen xs ds := r
  rw [hK]
  cases r with
  | nil => exact h.elim
  | @cons v vs d ds r1 r2 => cases r2 with
    | nil => exact h.elim
    | @cons v2 vs d2 ds r2 r3 => cases r3 with
      | cons _ _ => exact h.elim
      | nil =>
        dsimp only [dIsi] at h
        cases hb : isOne T d d2 with
        | none => rw [hb] at h; exact h.elim
        | some b =>
          rw [hb] at h
          have fin : Q (.bl b) H := fin_same w (.bl b) h
          cases r2 with
          | ty n =>
            dsimp only [isOne] at hb
            have gen : ∀ a, tyName d = some a → (match tyName d with | some a => if tyGoals.contains n then some (subB a n) else none | none => none) = some b → rIsi m.S.K [v, .ty n] H Q := fun a ea hb => by
              rw [ea] at hb
              dsimp only at hb
              split at hb
              · rename_i hn
                cases hb
                exact ⟨v, .ty n, _, _, _, rfl, .ty n, tyX_of w r1 ea, kit_ty (kit_all a (tyName_in ea) n (List.contains_iff_mem.mp hn)), fin⟩
              · cases hb
            cases r1 with
            | @obj a dx c vs ds ha hl rr =>
              dsimp only at hb
              split at hb
              · rename_i hc
                cases hb
                have h1 := (Bool.and_eq_true _ _ ▸ hc).1
                have h2 := (Bool.and_eq_true _ _ ▸ hc).2
                have c1 := List.contains_iff_mem.mp h1
                have o := F.oc c c1
                exact .inl ⟨.ref a, .ty n, _, _, _, rfl, .ty n, .base (.ins (w.sub _ _ ha) o.cl o.ha o.hn o.htk o.hm), F.ty c (.inl c1) n (List.contains_iff_mem.mp h2), fin⟩
              · cases hb
            | @exc a dd c fs vs ds ha hd hf hl rr =>
              dsimp only at hb
              split at hb
              · rename_i hc
                cases hb
                have h1 := (Bool.and_eq_true _ _ ▸ hc).1
                have h2 := (Bool.and_eq_true _ _ ▸ hc).2
                have c1 := List.contains_iff_mem.mp h1
                exact .inr ⟨a, _, some dd, .ty n, _, _, rfl, .ty n, w.sub _ _ ha, fun x e => by cases e; exact ⟨fs, w.sub _ _ hd⟩, F.xc c c1, F.ty c (.inr c1) n (List.contains_iff_mem.mp h2), fin⟩
              · cases hb
            | @exc0 a c ha =>
              dsimp only at hb
              split at hb
              · rename_i hc
                cases hb
                have h1 := (Bool.and_eq_true _ _ ▸ hc).1
                have h2 := (Bool.and_eq_true _ _ ▸ hc).2
                have c1 := List.contains_iff_mem.mp h1
                exact .inr ⟨a, _, none, .ty n, _, _, rfl, .ty n, w.sub _ _ ha, fun x e => (nomatch e), F.xc c c1, F.ty c (.inr c1) n (List.contains_iff_mem.mp h2), fin⟩
              · cases hb
            | non => exact .inl (gen _ rfl hb)
            | bl _ => exact .inl (gen _ rfl hb)
            | int _ => exact .inl (gen _ rfl hb)
            | str _ => exact .inl (gen _ rfl hb)
            | tup _ _ => exact .inl (gen _ rfl hb)
            | lst _ _ => exact .inl (gen _ rfl hb)
            | dct _ _ => exact .inl (gen _ rfl hb)
            | _ => cases hb
          | cls c' =>
            dsimp only [isOne] at hb
            have gen : ∀ a, tyName d = some a → (match tyName d with | some _ => if T.os.contains c' || T.xs.contains c' then some false else none | none => none) = some b → rIsi m.S.K [v, .ref (m.S.ca c')] H Q := fun a ea hb => by
              rw [ea] at hb
              dsimp only at hb
              split at hb
              · rename_i hn
                cases hb
                exact ⟨v, _, _, _, _, rfl, .own _, tyX_of w r1 ea, F.b a (tyName_in ea) c' (or_of hn), fin⟩
              · cases hb
            cases r1 with
            | @obj a dx c vs ds ha hl rr =>
              dsimp only at hb
              split at hb
              · rename_i hc
                cases hb
                have h1 := (Bool.and_eq_true _ _ ▸ hc).1
                have h2 := (Bool.and_eq_true _ _ ▸ hc).2
                have c1 := List.contains_iff_mem.mp h1
                have o := F.oc c c1
                exact .inl ⟨.ref a, _, _, _, _, rfl, .own _, .base (.ins (w.sub _ _ ha) o.cl o.ha o.hn o.htk o.hm), F.own c (.inl c1) c' (or_of h2), fin⟩
              · cases hb
            | @exc a dd c fs vs ds ha hd hf hl rr =>
              dsimp only at hb
              split at hb
              · rename_i hc
                cases hb
                have h1 := (Bool.and_eq_true _ _ ▸ hc).1
                have h2 := (Bool.and_eq_true _ _ ▸ hc).2
                have c1 := List.contains_iff_mem.mp h1
                exact .inr ⟨a, _, some dd, _, _, _, rfl, .own _, w.sub _ _ ha, fun x e => by cases e; exact ⟨fs, w.sub _ _ hd⟩, F.xc c c1, F.own c (.inr c1) c' (or_of h2), fin⟩
              · cases hb
            | @exc0 a c ha =>
              dsimp only at hb
              split at hb
              · rename_i hc
                cases hb
                have h1 := (Bool.and_eq_true _ _ ▸ hc).1
                have h2 := (Bool.and_eq_true _ _ ▸ hc).2
                have c1 := List.contains_iff_mem.mp h1
                exact .inr ⟨a, _, none, _, _, _, rfl, .own _, w.sub _ _ ha, fun x e => (nomatch e), F.xc c c1, F.own c (.inr c1) c' (or_of h2), fin⟩
              · cases hb
            | non => exact .inl (gen _ rfl hb)
            | bl _ => exact .inl (gen _ rfl hb)
            | int _ => exact .inl (gen _ rfl hb)
            | str _ => exact .inl (gen _ rfl hb)
            | tup _ _ => exact .inl (gen _ rfl hb)
            | lst _ _ => exact .inl (gen _ rfl hb)
            | dct _ _ => exact .inl (gen _ rfl hb)
            | _ => cases hb
          | _ => cases hb
end
end ME

namespace ME
open PySem PySem.Spec L2

/-! ### attributes, by values -/
def AtR (X : Cx) (f : Str) (r : V → Hp → VK → Prop) : Prop :=
  ∀ (pins : List (Addr × Obj)) (s : Shared) (σ : St) (H : Hp) (x : V) (u : Value) (Q : VK), Inv X pins σ H s → RelV x u → r x H Q → wpAny (model X.prog X.w) X.A (getAttr u f true) (EP X pins σ Q) X.xe s
theorem AtR.or {X : Cx} {f : Str} {r r' : V → Hp → VK → Prop} (h : AtR X f r) (h' : AtR X f r') : AtR X f (fun x H Q => r x H Q ∨ r' x H Q) := by
  intro pins s σ H x u Q I rx q
  rcases q with q | q
  · exact h pins s σ H x u Q I rx q
  · exact h' pins s σ H x u Q I rx q
section
variable {X : Cx} {m : Am} {e : Expr} {f : Str} {pos : Pos} {ea : EX}
theorem pe_at {r : V → Hp → VK → Prop} {ta : TE} (hr : AtR X f r) (he : PE X e ta) (hb : attributeBase e f X.env (eval e X.env) = eval e X.env) : PE X (.Attribute e f pos) (tUn r ta) := by
  refine ⟨fun pins s σ H Q I h => ?_⟩
  exact attr_of hb (thn (he.run pins s σ H _ I h) fun u s1 ⟨x, H1, I1, rx, q⟩ => hr pins s1 σ H1 x u Q I1 rx q)
theorem me_at {r : V → Hp → VK → Prop} {o : D → M D} (hr : AtR X f r) (ho : R1Ok m r o) (he : PE X e (tE m ea)) (hb : attributeBase e f X.env (eval e X.env) = eval e X.env := by rfl) : PE X (.Attribute e f pos) (tE m (mUn o ea)) := by
  refine PE.imp (pe_at hr he hb) fun σ H Q h => ?_
  exact (tY_bind (R1 := m.rE) r0_mono h).imp fun x H1 h2 => ho σ x H1 Q h2
/-- a field of an instance -/
def rFld (K : PySem.W.Frag) (f : Str) : V → Hp → VK → Prop := fun x H Q => ∃ a C dx fs v, x = .ref a ∧ H a = some (.ins C dx fs) ∧ Cls K C ∧ NoAttr K C f ∧ fs.lookup f = some v ∧ Q v H
theorem at_fld : AtR X f (rFld X.K f) := by
  intro pins s σ H x u Q I rx h
  obtain ⟨a, C, dx, fs, v, ex, ea, c, n, l, q⟩ := h
  subst ex
  obtain rfl : u = Value.ref a := rx
  exact getattr_ok I ea c n l fun u' s2 I2 ru => ⟨v, H, I2, ru, q⟩
/-- a field of an exception that is kept -/
def rXfld (K : PySem.W.Frag) (f : Str) : V → Hp → VK → Prop := fun x H Q => ∃ a C d fs v, x = .ref a ∧ H a = some (ExV a C (some d)) ∧ H d = some (.xd fs) ∧ XfC K C ∧ PySem.W.findIn K (.ref C) f = some none ∧ fs.lookup f = some v ∧ Q v H
theorem at_xfld : AtR X f (rXfld X.K f) := by
  intro pins s σ H x u Q I rx h
  obtain ⟨a, C, d, fs, v, ex, ea, ed, T, hno, l, q⟩ := h
  subst ex
  obtain rfl : u = Value.ref a := rx
  obtain ⟨⟨oe, vs, e1, z, e2⟩, _⟩ := I.hok a _ ea
  obtain ⟨mA, hns, hr⟩ := I.hok d _ ed
  obtain ⟨od, ho, hl⟩ := lookIn_ns hns
  obtain ⟨u, hu, ru⟩ := RelO.some_of (v := v) (o := mA f) (by rw [← l]; exact hr f)
  have J : PySem.W.InstAt s.heap a oe C (some od) := ⟨e1, z.1, by unfold PySem.W.notCls; rw [e2] <;> rfl, by rw [z.2]; exact ho⟩
  exact HandSPX.exc_get I.kIn J T.ga T.gg T.exC (PySem.W.findObj_own T.hdC hno rfl (by rw [hl, hu])) (handed_of ru) ⟨v, H, I.tok _, ru, q⟩

/-- fields by class and place -/
def dFld (os xs : List (Nat × Nat)) : D → M D
  | .obj c fs => match os.lookup c with
    | some i => M.opt fs[i]?
    | none => M.stuck
  | .exc c fs => match xs.lookup c with
    | some i => M.opt fs[i]?
    | none => M.stuck
  | _ => M.stuck
theorem mem_of_lookup {α β : Type} [BEq α] [LawfulBEq α] {k : α} {v : β} : ∀ {l : List (α × β)}, l.lookup k = some v → (k, v) ∈ l
  | (a, b) :: r, h => by
    rw [List.lookup_cons] at h
    cases e : k == a with
    | true => rw [e] at h; cases h; rw [beq_iff_eq.mp e]; exact List.mem_cons_self
    | false => rw [e] at h; exact List.mem_cons_of_mem _ (mem_of_lookup h)
theorem zip_lookup {α β : Type} [BEq α] [LawfulBEq α] {k : α} {v : β} : ∀ {a : List α} {b : List β} {i : Nat}, a.Nodup → a[i]? = some k → b[i]? = some v → (a.zip b).lookup k = some v
  | [], _, _, _, h, _ => by simp at h
  | _ :: _, [], _, _, _, h => by simp at h
  | x :: a, y :: b, 0, nd, h1, h2 => by
    simp at h1 h2; subst h1; subst h2
    simp [List.lookup_cons]
  | x :: a, y :: b, i + 1, nd, h1, h2 => by
    have nd' := List.nodup_cons.mp nd
    have hx : (k == x) = false := beq_eq_false_iff_ne.mpr fun e => nd'.1 (by rw [← e]; exact List.mem_of_getElem? (by simpa using h1))
    rw [List.zip_cons_cons, List.lookup_cons, hx]
    exact zip_lookup nd'.2 (by simpa using h1) (by simpa using h2)
theorem r_fld {os xs : List (Nat × Nat)} (hK : X.K = m.S.K) (ho : ∀ q ∈ os, Cls m.S.K (m.S.ca q.1) ∧ NoAttr m.S.K (m.S.ca q.1) f ∧ (m.S.nm q.1)[q.2]? = some f ∧ (m.S.nm q.1).Nodup)
    (hx : ∀ q ∈ xs, XfC m.S.K (m.S.ca q.1) ∧ PySem.W.findIn m.S.K (.ref (m.S.ca q.1)) f = some none ∧ (m.S.nm q.1)[q.2]? = some f ∧ (m.S.nm q.1).Nodup) : R1Ok m (fun x H Q => rFld X.K f x H Q ∨ rXfld X.K f x H Q) (dFld os xs) := by
  rintro σ x H Q ⟨G, p, δ, ⟨_, d⟩, w, sl, ⟨_, r⟩, h⟩
  have r : Rep m.S G m.pen x d := r
  rw [hK]
  cases r with
  | @obj a dx c vs ds ha hl rr =>
    dsimp only [dFld] at h
    cases e : os.lookup c with
    | none => rw [e] at h; exact h.elim
    | some i =>
      rw [e] at h
      dsimp only at h
      cases e2 : ds[i]? with
      | none => rw [e2] at h; exact h.elim
      | some dv =>
        rw [e2] at h
        obtain ⟨h1, h2, h3, h4⟩ := ho _ (mem_of_lookup e)
        obtain ⟨v, ev, rv⟩ := rr.get e2
        exact .inl ⟨a, _, dx, _, v, rfl, w.sub _ _ ha, h1, h2, zip_lookup h4 h3 ev, fin_same w rv h⟩
  | @exc a dd c fs vs ds ha hd hf hl rr =>
    dsimp only [dFld] at h
    cases e : xs.lookup c with
    | none => rw [e] at h; exact h.elim
    | some i =>
      rw [e] at h
      dsimp only at h
      cases e2 : ds[i]? with
      | none => rw [e2] at h; exact h.elim
      | some dv =>
        rw [e2] at h
        obtain ⟨h1, h2, h3, h4⟩ := hx _ (mem_of_lookup e)
        obtain ⟨v, ev, rv⟩ := rr.get e2
        exact .inr ⟨a, _, dd, fs, v, rfl, w.sub _ _ ha, w.sub _ _ hd, h1, h2, by rw [hf]; exact zip_lookup h4 h3 ev, fin_same w rv h⟩
  | @exc0 a c ha =>
    dsimp only [dFld] at h
    cases e : xs.lookup c with
    | none => rw [e] at h; exact h.elim
    | some i => rw [e] at h; exact h.elim
  | _ => exact h.elim
end
end ME

namespace ME
open PySem PySem.Spec L2

def kPy : Key → PyData
  | .inl i => .int i
  | .inr x => .str x
mutual
def toPy : D → Option PyData
  | .non => some .none
  | .bl b => some (.bool b)
  | .int i => some (.int i)
  | .str x => some (.str x)
  | .tup l => (toPyL l).map .tuple
  | .lst l => (toPyL l).map .list
  | .dct l => (toPyK l).map .dict
  | _ => none
def toPyL : List D → Option (List PyData)
  | [] => some []
  | d :: r => match toPy d, toPyL r with
    | some p, some q => some (p :: q)
    | _, _ => none
def toPyK : List (Key × D) → Option (List (PyData × PyData))
  | [] => some []
  | (k, d) :: r => match toPy d, toPyK r with
    | some p, some q => some ((kPy k, p) :: q)
    | _, _ => none
end
section
variable {X : Cx} {m : Am} {pins : List (Addr × Obj)} {s : Shared} {σ : St} {G H : Hp}
theorem not_sys {a : Addr} {o : HO} (I : Inv X pins σ H s) (hS : ∃ o, X.base.get? sysModules = some o) (h : H a = some o) : a ≠ sysModules := fun z => by
  obtain ⟨u, hu⟩ := hS
  have := (I.bs _ _ hu).2
  rw [z, this] at h; cases h
theorem key_reads {h : Heap} {k : Key} {v : Value} (e : keyIs k v = true) : Reads h v (kPy k) [] := by
  rcases keyIs_shape e with ⟨i, t, rfl, rfl⟩ | ⟨x, t, rfl, rfl⟩
  · exact .int i t
  · exact .str x t
mutual
theorem Rep.reads (I : Inv X pins σ H s) (hK : X.K = m.S.K) (hS : ∃ o, X.base.get? sysModules = some o) (sb : Sub G H) : ∀ {v : V} {d : D} {u : Value} {pd : PyData}, Rep m.S G m.pen v d → RelV v u → toPy d = some pd → ∃ as, Reads s.heap u pd as ∧ sysModules ∉ as
  | _, _, _, _, .non, r, e => by cases e; cases r; exact ⟨_, .none, by simp⟩
  | _, _, _, _, .bl b, r, e => by cases e; cases r; exact ⟨_, .bool b, by simp⟩
  | _, _, _, _, .int i, r, e => by cases e; obtain ⟨t, rfl⟩ := r; exact ⟨_, .int i t, by simp⟩
  | _, _, _, _, .str x, r, e => by cases e; obtain ⟨t, rfl⟩ := r; exact ⟨_, .str x t, by simp⟩
  | _, _, _, _, .tup (a := a) (vs := vs) (ds := ds) ha ra, r, e => by
    cases r
    simp only [toPy, Option.map_eq_some_iff] at e
    obtain ⟨l, el, rfl⟩ := e
    obtain ⟨its, rv, ⟨o, h1, h2, n, h3⟩, _⟩ := I.tuple (by rw [hK]; exact sb.sqt ha)
    obtain ⟨as, q, ns⟩ := Reps.reads I hK hS sb ra rv el
    exact ⟨as, .tuple h1 h2 h3 (by simpa using q), ns⟩
  | _, _, _, _, .lst (a := a) (vs := vs) (ds := ds) ha ra, r, e => by
    cases r
    simp only [toPy, Option.map_eq_some_iff] at e
    obtain ⟨l, el, rfl⟩ := e
    have hl := sb _ _ ha
    obtain ⟨_, its, n, rv, h1⟩ := I.hok a _ hl
    obtain ⟨as, q, ns⟩ := Reps.reads I hK hS sb ra rv el
    exact ⟨a :: as, .list h1 rfl rfl (by simpa using q), by simp only [List.mem_cons, not_or]; exact ⟨Ne.symm (not_sys I hS hl), ns⟩⟩
  | _, _, _, _, .dct (a := a) (kvs := kvs) (ds := ds) ha ra, r, e => by
    cases r
    simp only [toPy, Option.map_eq_some_iff] at e
    obtain ⟨l, el, rfl⟩ := e
    have hl := sb _ _ ha
    obtain ⟨_, _, vs, kv, o, es, ep, h1, h2, h3, _, pr, _⟩ := I.hok a _ hl
    obtain ⟨as, q1, q2, ns⟩ := RepK.reads I hK hS sb ra kv pr el
    exact ⟨a :: [] ++ as, .dict h1 h2.1 h3 q1 q2, by simp only [List.cons_append, List.nil_append, List.mem_cons, not_or]; exact ⟨Ne.symm (not_sys I hS hl), ns⟩⟩
  | _, _, _, _, .obj _ _ _, _, e => by cases e
  | _, _, _, _, .exc _ _ _ _ _, _, e => by cases e
  | _, _, _, _, .exc0 _, _, e => by cases e
  | _, _, _, _, .cls _, _, e => by cases e
  | _, _, _, _, .ty _, _, e => by cases e
  | _, _, _, _, .pen, _, e => by cases e
theorem Reps.reads (I : Inv X pins σ H s) (hK : X.K = m.S.K) (hS : ∃ o, X.base.get? sysModules = some o) (sb : Sub G H) : ∀ {v : List V} {d : List D} {u : List Value} {pd : List PyData}, Reps m.S G m.pen v d → Vals v u → toPyL d = some pd → ∃ as, ReadsAll s.heap u pd as ∧ sysModules ∉ as
  | _, _, _, _, .nil, r, e => by cases r; cases e; exact ⟨_, .nil, by simp⟩
  | _, _, _, _, .cons (d := d) (ds := ds) h hr, r, e => by
    cases r with
    | cons r1 r2 =>
      simp only [toPyL] at e
      cases e1 : toPy d with
      | none => rw [e1] at e; cases e
      | some p =>
        cases e2 : toPyL ds with
        | none => rw [e1, e2] at e; cases e
        | some q =>
          rw [e1, e2] at e
          cases e
          obtain ⟨as, q1, n1⟩ := Rep.reads I hK hS sb h r1 e1
          obtain ⟨bs, q2, n2⟩ := Reps.reads I hK hS sb hr r2 e2
          exact ⟨as ++ bs, .cons q1 q2, by simp only [List.mem_append, not_or]; exact ⟨n1, n2⟩⟩
theorem RepK.reads (I : Inv X pins σ H s) (hK : X.K = m.S.K) (hS : ∃ o, X.base.get? sysModules = some o) (sb : Sub G H) : ∀ {v : List (Key × V)} {d : List (Key × D)} {u : List (Key × Value)} {es : List DictEntry} {pd : List (PyData × PyData)}, RepK m.S G m.pen v d → KV v u → Pairs (mixKind X.prog X.w) es u → toPyK d = some pd →
    ∃ as, ReadsAll s.heap (es.map (·.key)) (pd.map (·.1)) [] ∧ ReadsAll s.heap (es.map (·.val)) (pd.map (·.2)) as ∧ sysModules ∉ as
  | _, _, _, _, _, .nil, r, p, e => by cases r; cases p; cases e; exact ⟨_, .nil, .nil, by simp⟩
  | _, _, _, _, _, .cons (d := d) (ds := ds) h hr, r, p, e => by
    cases r with
    | cons r1 r2 =>
      cases p with
      | cons p1 pv p2 =>
      simp only [toPyK] at e
      cases e1 : toPy d with
      | none => rw [e1] at e; cases e
      | some pp =>
        cases e2 : toPyK ds with
        | none => rw [e1, e2] at e; cases e
        | some q =>
          rw [e1, e2] at e
          cases e
          obtain ⟨ek, rv⟩ := r1
          dsimp only at ek rv
          obtain ⟨as, q1, n1⟩ := Rep.reads I hK hS sb h (pv.symm ▸ rv) e1
          obtain ⟨bs, q2, q3, n2⟩ := RepK.reads I hK hS sb hr r2 p2 e2
          refine ⟨as ++ bs, ?_, .cons q1 q3, by simp only [List.mem_append, not_or]; exact ⟨n1, n2⟩⟩
          have kr : Reads s.heap _ (kPy _) [] := key_reads (h := s.heap) (show keyIs _ _ = true from p1)
          rw [← ek] at kr
          exact .cons (as := []) (bs := []) kr q2
end
end
/-! ### repr -/
def dRepr : List D → M D
  | [d] => match toPy d with
    | some p => if p.showable && decide (p.depth ≤ 60) && szOk p.shown.length then M.ret (.str p.shown) else M.stuck
    | none => M.stuck
  | _ => M.stuck
section
variable {X : Cx} {m : Am}
def rRepr (m : Am) : List V → Hp → VK → Prop := fun xs H Q => ∃ x G d p, xs = [x] ∧ Sub G H ∧ Rep m.S G m.pen x d ∧ toPy d = some p ∧ p.showable = true ∧ p.depth ≤ 60 ∧ p.shown.length ≤ sizeLine ∧ Q (.str p.shown) H
theorem call_reprM (hK : X.K = m.S.K) (hS : ∃ o, X.base.get? sysModules = some o) (hg : X.A.guards = some []) (hu : X.A.units + 64 < cLine) : CallR X (.builtin "repr") (rRepr m) := by
  intro pins s σ H xs us Q I r h
  obtain ⟨x, G, d, p, rfl, sb, rp, e, hs, hd, hz, q⟩ := h
  obtain ⟨u, rfl, ru⟩ := vals1 r
  obtain ⟨as, rd, ns⟩ := rp.reads I hK hS sb ru e
  have done : ∀ h' t tk, (∀ b o, s.heap.get? b = some o → h'.get? b = some o) → EP X pins σ Q (.str p.shown t) { s with heap := h', toks := tk } := fun h' t tk k => ⟨.str _, H, I.kept k, ⟨t, rfl⟩, q⟩
  cases rd with
  | none => exact PySem.P.repr_of_none (done s.heap _ _ fun _ _ z => z)
  | bool b => exact PySem.P.repr_of_bool (done s.heap _ _ fun _ _ z => z)
  | int i t => exact PySem.P.repr_of_int (by simpa [PyData.showable] using hs) (done s.heap _ _ fun _ _ z => z)
  | str x t => exact PySem.P.repr_of_str (done s.heap _ _ fun _ _ z => z) hz
  | list h1 h2 h3 h4 => exact repr_of_reads' (.list h1 h2 h3 h4) hs (fun _ => ns) hg (by omega) (fun _ _ z => z) (fun h' u tk k => done h' u tk k) hz
  | tuple h1 h2 h3 h4 => exact repr_of_reads' (.tuple h1 h2 h3 h4) hs (fun _ => ns) hg (by omega) (fun _ _ z => z) (fun h' u tk k => done h' u tk k) hz
  | dict h1 h2 h3 h4 h5 => exact repr_of_reads' (.dict h1 h2 h3 h4 h5) hs (fun _ => ns) hg (by omega) (fun _ _ z => z) (fun h' u tk k => done h' u tk k) hz
theorem r_repr : RAOk m (rRepr m) dRepr := by
  rintro σ xs H Q ⟨G, p, δ, ⟨_, ds⟩, w, sl, ⟨_, r⟩, h⟩
  have r : Reps m.S G m.pen xs ds := r
  cases r with
  | nil => exact h.elim
  | @cons v vs d ds r1 r2 => cases r2 with
    | cons _ _ => exact h.elim
    | nil =>
      dsimp only [dRepr] at h
      cases e : toPy d with
      | none => rw [e] at h; exact h.elim
      | some pd =>
        rw [e] at h
        dsimp only at h
        split at h
        · rename_i hz
          simp only [Bool.and_eq_true, decide_eq_true_eq] at hz
          exact ⟨v, G, d, pd, rfl, w.sub, r1, e, hz.1.1, hz.1.2, szOk_le hz.2, fin_same w (.str _) h⟩
        · exact h.elim
/-! ### == and != of plain data -/
def dEq (neg : Bool) : D → D → M D
  | .str x, .str y => M.ret (.bl (neg ^^ (x == y)))
  | a, b => match toPy a, toPy b with
    | some p, some q => if SeqAt.shaped p && SeqAt.shaped q then M.ret (.bl (neg ^^ PyData.eqv p q)) else M.stuck
    | _, _ => M.stuck
def rEqM (m : Am) (neg : Bool) : R2 := fun x y H Q => ∃ G d e p q, Sub G H ∧ Rep m.S G m.pen x d ∧ Rep m.S G m.pen y e ∧ toPy d = some p ∧ toPy e = some q ∧ SeqAt.shaped p = true ∧ SeqAt.shaped q = true ∧ Q (.bl (neg ^^ PyData.eqv p q)) H
theorem op_eqM (hK : X.K = m.S.K) (hS : ∃ o, X.base.get? sysModules = some o) (hu : X.A.units + 64 < cLine) : OpR X (compareOp .Eq) (rEqM m false) := by
  intro pins s σ H x y v u Q I rx ry h
  obtain ⟨G, d, e, p, q, sb, r1, r2, e1, e2, s1, s2, k⟩ := h
  obtain ⟨as, d1, _⟩ := r1.reads I hK hS sb rx e1
  obtain ⟨bs, d2, _⟩ := r2.reads I hK hS sb ry e2
  rw [Bool.false_xor] at k
  exact SeqAt.compareEq_shaped d1 d2 s1 s2 hu ⟨.bl _, H, I, rfl, k⟩
theorem op_neM (hK : X.K = m.S.K) (hS : ∃ o, X.base.get? sysModules = some o) (hu : X.A.units + 64 < cLine) : OpR X (compareOp .NotEq) (rEqM m true) := by
  intro pins s σ H x y v u Q I rx ry h
  obtain ⟨G, d, e, p, q, sb, r1, r2, e1, e2, s1, s2, k⟩ := h
  obtain ⟨as, d1, _⟩ := r1.reads I hK hS sb rx e1
  obtain ⟨bs, d2, _⟩ := r2.reads I hK hS sb ry e2
  rw [Bool.true_xor] at k
  exact SeqAt.compareNe_shaped d1 d2 s1 s2 hu ⟨.bl _, H, I, rfl, k⟩
theorem r_eqG {neg : Bool} {r0' : R2} (hs : ∀ x y H Q, Q (.bl (neg ^^ (x == y))) H → r0' (.str x) (.str y) H Q) : R2Ok m (fun x y H Q => r0' x y H Q ∨ rEqM m neg x y H Q) (dEq neg) := by
  rintro σ x y H Q ⟨G, p, δ, ⟨⟨_, dx⟩, dy⟩, w, sl, ⟨⟨_, rx⟩, ry⟩, h⟩
  have rx : Rep m.S G m.pen x dx := rx
  have ry : Rep m.S G m.pen y dy := ry
  have gen : (∀ a b, ¬ (dx = .str a ∧ dy = .str b)) → rEqM m neg x y H Q := fun hn => by
    have e : dEq neg dx dy = (match toPy dx, toPy dy with
      | some p, some q => if SeqAt.shaped p && SeqAt.shaped q then M.ret (.bl (neg ^^ PyData.eqv p q)) else M.stuck
      | _, _ => M.stuck) := by
      unfold dEq
      split
      · exact absurd ⟨rfl, rfl⟩ (hn _ _)
      · rfl
    dsimp only at h
    rw [e] at h
    cases e1 : toPy dx with
    | none => rw [e1] at h; exact h.elim
    | some p1 =>
      cases e2 : toPy dy with
      | none => rw [e1, e2] at h; exact h.elim
      | some p2 =>
        rw [e1, e2] at h
        dsimp only at h
        split at h
        · rename_i hz
          simp only [Bool.and_eq_true] at hz
          exact ⟨G, dx, dy, p1, p2, w.sub, rx, ry, e1, e2, hz.1, hz.2, fin_same w (.bl _) h⟩
        · exact h.elim
  cases rx with
  | str a => cases ry with
    | str b => exact .inl (hs a b H Q (fin_same w (.bl _) h))
    | _ => exact .inr (gen fun _ _ z => by cases z.2)
  | _ => exact .inr (gen fun _ _ z => by cases z.1)
theorem r_eq : R2Ok m (fun x y H Q => rEq x y H Q ∨ rEqM m false x y H Q) (dEq false) := r_eqG fun x y H Q h => ⟨rfl, by rw [Bool.false_xor] at h; rw [dec_str]; exact h⟩
theorem r_ne : R2Ok m (fun x y H Q => rNe x y H Q ∨ rEqM m true x y H Q) (dEq true) := r_eqG fun x y H Q h => ⟨rfl, by rw [Bool.true_xor] at h; rw [dec_str]; exact h⟩
end
end ME


namespace ME
open PySem PySem.Spec L2

/-! ### text * int -/
def dMulT : D → D → M D
  | .str x, .int n => if szOk (x.length * n.toNat) && decide (-(2 ^ 63) ≤ n) && decide (n ≤ 16777216) then M.ret (.str (Txt.mul x n)) else M.stuck
  | a, b => dMul a b
section
variable {X : Cx} {m : Am}
def rMulT : R2 := fun x y H Q => ∃ z n, x = .str z ∧ y = .int n ∧ MulOk z n ∧ Q (.str (Txt.mul z n)) H
theorem op_mulT : OpR X (binaryOp .Mult) rMulT := by
  intro pins s σ H x y v u Q I rx ry h
  obtain ⟨z, n, rfl, rfl, ok, q⟩ := h
  obtain ⟨t, rfl⟩ := rx
  obtain ⟨t', rfl⟩ := ry
  exact SB.mul ok fun t' k => ⟨.str _, H, I.tok _, ⟨_, rfl⟩, q⟩
theorem r_mulT : R2Ok m (fun x y H Q => (rI CMul fun i j => .int (i * j)) x y H Q ∨ rMulT x y H Q) dMulT := by
  rintro σ x y H Q ⟨G, p, δ, ⟨⟨_, dx⟩, dy⟩, w, sl, ⟨⟨u1, rx⟩, ry⟩, h⟩
  have rx' : Rep m.S G m.pen x dx := rx
  have ry' : Rep m.S G m.pen y dy := ry
  by_cases hs : ∃ z n, dx = .str z ∧ dy = .int n
  · obtain ⟨z, n, rfl, rfl⟩ := hs
    cases rx'
    cases ry'
    dsimp only [dMulT] at h
    split at h
    · rename_i hz
      simp only [Bool.and_eq_true, decide_eq_true_eq] at hz
      refine .inr ⟨z, n, rfl, rfl, ?_, fin_same w (.str _) h⟩
      have h1 := szOk_le hz.1.1
      rw [sizeLine_eq] at h1
      by_cases hn : 0 ≤ n
      · exact PyProof.Rows.mulOk_of z.length n.toNat (Nat.le_refl _) (by omega) hz.1.2 (by omega) h1
      · exact PyProof.Rows.mulOk_of z.length 0 (Nat.le_refl _) (by omega) hz.1.2 (by omega) (by omega)
    · exact h.elim
  · refine .inl (r_mul σ x y H Q ⟨G, p, δ, ⟨⟨_, dx⟩, dy⟩, w, sl, ⟨⟨u1, rx⟩, ry⟩, ?_⟩)
    have e : dMulT dx dy = dMul dx dy := by
      unfold dMulT
      split
      · exact absurd ⟨_, _, rfl, rfl⟩ hs
      · rfl
    dsimp only at h ⊢
    rw [← e]; exact h
end
/-! ### in, not in: flat things -/
def flatD : D → Bool
  | .non => true
  | .bl _ => true
  | .int _ => true
  | .str _ => true
  | _ => false
def eqF : D → D → Bool
  | .non, .non => true
  | .bl a, .bl b => a == b
  | .bl a, .int b => (if a then 1 else 0) == b
  | .int a, .bl b => a == (if b then 1 else 0)
  | .int a, .int b => a == b
  | .str a, .str b => a == b
  | _, _ => false
def inF (x : D) (l : List D) : Bool := l.any fun y => eqF y x
def dIn (neg : Bool) : D → D → M D
  | x, .lst l => if flatD x && l.all flatD then M.ret (.bl (if neg then !inF x l else inF x l)) else M.stuck
  | x, .tup l => if flatD x && l.all flatD then M.ret (.bl (if neg then !inF x l else inF x l)) else M.stuck
  | _, _ => M.stuck
section
variable {X : Cx} {m : Am} {S : Sg} {G : Hp} {pen : Addr}
theorem Rep.flat {v : V} {d : D} (r : Rep S G pen v d) (h : flatD d = true) : flatV v = true := by
  cases r <;> first | rfl | (simp [flatD] at h; done)
theorem Rep.eqF {v u : V} {d e : D} (r : Rep S G pen v d) (q : Rep S G pen u e) (h : flatD d = true) (k : flatD e = true) : eqV v u = ME.eqF d e := by
  cases r <;> cases q <;> first | rfl | (simp [flatD] at h; done) | (simp [flatD] at k; done)
theorem Reps.flats : ∀ {vs : List V} {ds : List D}, Reps S G pen vs ds → ds.all flatD = true → vs.all flatV = true
  | _, _, .nil, _ => rfl
  | _, _, .cons r rr, h => by
    simp only [List.all_cons, Bool.and_eq_true] at h ⊢
    exact ⟨r.flat h.1, Reps.flats rr h.2⟩
theorem Reps.inF {v : V} {d : D} (q : Rep S G pen v d) (k : flatD d = true) : ∀ {vs : List V} {ds : List D}, Reps S G pen vs ds → ds.all flatD = true → inV v vs = ME.inF d ds
  | _, _, .nil, _ => rfl
  | _, _, .cons r rr, h => by
    simp only [List.all_cons, Bool.and_eq_true] at h
    have h1 := Reps.inF q k rr h.2
    unfold inV ME.inF at h1 ⊢
    rw [List.any_cons, List.any_cons, h1, r.eqF q h.1 k]
theorem r_in {neg : Bool} (hK : X.K = m.S.K) : R2Ok m (rIn X.K neg) (dIn neg) := by
  rintro σ x y H Q ⟨G, p, δ, ⟨⟨_, dx⟩, dy⟩, w, sl, ⟨⟨_, rx⟩, ry⟩, h⟩
  have rx : Rep m.S G m.pen x dx := rx
  have ry : Rep m.S G m.pen y dy := ry
  rw [hK]
  cases ry with
  | @lst a vs ds ha ra =>
    dsimp only [dIn] at h
    split at h
    · rename_i hz
      simp only [Bool.and_eq_true] at hz
      refine ⟨a, vs, rfl, .inl (.of (w.sub _ _ ha)), rx.flat hz.1, ra.flats hz.2, ?_⟩
      rw [ra.inF rx hz.1 hz.2]
      exact fin_same w (.bl _) h
    · exact h.elim
  | @tup a vs ds ha ra =>
    dsimp only [dIn] at h
    split at h
    · rename_i hz
      simp only [Bool.and_eq_true] at hz
      refine ⟨a, vs, rfl, .inr (w.sub.sqt ha), rx.flat hz.1, ra.flats hz.2, ?_⟩
      rw [ra.inF rx hz.1 hz.2]
      exact fin_same w (.bl _) h
    · exact h.elim
  | _ => exact h.elim
/-! ### len -/
theorem r_len (hK : X.K = m.S.K) : RAOk m (fun xs H Q => (∃ p ys, xs = [.ref p] ∧ (SqL X.K H p ys ∨ SqT X.K H p ys) ∧ Q (.int ys.length) H) ∨ (∃ z, xs = [.str z] ∧ z.length ≤ sizeLine ∧ Q (.int z.length) H) ∨ (∃ a kvs, xs = [V.ref a] ∧ H a = some (.dK kvs) ∧ Q (.int kvs.length) H)) dLen := by
  rintro σ xs H Q ⟨G, p, δ, ⟨_, ds⟩, w, sl, ⟨_, r⟩, h⟩
  have r : Reps m.S G m.pen xs ds := r
  rw [hK]
  cases r with
  | nil => exact h.elim
  | @cons v vs d ds r1 r2 => cases r2 with
    | cons _ _ => cases d <;> exact h.elim
    | nil =>
      cases r1 with
      | @lst a vs ds ha ra => exact .inl ⟨a, vs, rfl, .inl (.of (w.sub _ _ ha)), by rw [ra.length]; exact fin_same w (.int _) h⟩
      | @tup a vs ds ha ra => exact .inl ⟨a, vs, rfl, .inr (w.sub.sqt ha), by rw [ra.length]; exact fin_same w (.int _) h⟩
      | @dct a vs ds ha ra => exact .inr (.inr ⟨a, vs, rfl, w.sub _ _ ha, by rw [ra.length]; exact fin_same w (.int _) h⟩)
      | str x =>
        dsimp only [dLen] at h
        split at h
        · rename_i hz
          exact .inr (.inl ⟨x, rfl, szOk_le hz, fin_same w (.int _) h⟩)
        · exact h.elim
      | _ => exact h.elim
theorem call_lenM : CallR X (.builtin "len") (fun xs H Q => (∃ p ys, xs = [.ref p] ∧ (SqL X.K H p ys ∨ SqT X.K H p ys) ∧ Q (.int ys.length) H) ∨ (∃ z, xs = [.str z] ∧ z.length ≤ sizeLine ∧ Q (.int z.length) H) ∨ (∃ a kvs, xs = [V.ref a] ∧ H a = some (.dK kvs) ∧ Q (.int kvs.length) H)) :=
  CallR.or call_len_seq (CallR.or call_len_str call_lenD)
/-! ### an exception class without own __init__, called without arguments -/
theorem me_exc0 {x : Str} {p pos : Pos} {c : Nat} {bmB : List Value} {B newId initId : String} (F : ExcBaseFacts B newId initId bmB) (q : PySem.W.excIn X.K (m.S.ca c) bmB newId = true) (gC : X.mg x = some (.ref (m.S.ca c))) (kC : PySem.W.keepIn X.K (.ref (m.S.ca c)) = true) (r : Raises X (.ref (m.S.ca c))) (hg : Gl X x) (hdb : (x == ("__debug__" : Str)) = false := by decide) :
    PE X (.Call (.Name x p) [] [] pos) (tE m (mC (.exc c []))) := by
  have mk : PMk X (.Call (.Name x p) [] [] pos) (fun _ H Q => Q (.ref (m.S.ca c)) none H) := by
    intro pins s σ H Q I h
    refine wpAny_Call_Name_kw (ld_glob I hg gC ?_ hdb)
    refine PySem.W.callWith_K0 I.kIn kC ?_
    show wpAny _ _ (call (.ref (m.S.ca c)) []) _ _ _
    obtain ⟨bm, N, nm, qn, bs, hdct, sn, sub, ab, col, dd, k0, k1, k2, k3, k5, mN, hC, hN, hni, T⟩ := exc_obj I.kIn q
    refine wpAny_call_exc_subT F T hC hN hni (fun h' e hm => ?_) (by show 0 ≤ sizeLine; exact Nat.zero_le _)
    exact mk_of I hm r h (I.hok.gone hm.new)
  refine PE.imp (pe_of_mk mk) fun σ H Q ⟨G, p, δ, _, w, sl, _, h⟩ => ⟨_, rfl, fun a ha => ?_⟩
  exact h (.ref a) _ _ (Ex.alloc ha (w.gfree ha)) (w.alloc ha) (.exc0 upd_same)
end
end ME

namespace ME
open PySem PySem.Spec L2

/-! ### {k: v, ..} -/
def mPairs : List (EX × EX) → DS → M (List (D × D))
  | [], _ => M.ret []
  | (a, b) :: r, δ => (a δ).bnd fun x => (b δ).bnd fun y => (mPairs r δ).bnd fun l => M.ret ((x, y) :: l)
def dKey : D → Option Key
  | .int i => some (.inl i)
  | .str x => some (.inr x)
  | _ => none
def dKeys : List (D × D) → Option (List (Key × D))
  | [] => some []
  | (k, v) :: r => match dKey k, dKeys r with
    | some k', some r' => some ((k', v) :: r')
    | _, _ => none
def mDict (prs : List (EX × EX)) : EX := fun δ => (mPairs prs δ).bnd fun l => match dKeys l with
  | some kvs => if decide (kvs.map (·.1)).Nodup && decide (kvs.length ≤ 15) then M.ret (.dct kvs) else M.stuck
  | none => M.stuck
inductive Reps2 (S : Sg) (G : Hp) (pen : Addr) : List (V × V) → List (D × D) → Prop
  | nil : Reps2 S G pen [] []
  | cons {v u : V} {vs : List (V × V)} {d e : D} {ds : List (D × D)} : Rep S G pen v d → Rep S G pen u e → Reps2 S G pen vs ds → Reps2 S G pen ((v, u) :: vs) ((d, e) :: ds)
theorem Reps2.mono {S : Sg} {G G' : Hp} {pen : Addr} (s : Sub G G') : ∀ {vs : List (V × V)} {ds : List (D × D)}, Reps2 S G pen vs ds → Reps2 S G' pen vs ds
  | _, _, .nil => .nil
  | _, _, .cons a b r => .cons (a.mono s) (b.mono s) (Reps2.mono s r)
def rP2 (m : Am) : Rl (List (V × V)) (List (D × D)) := fun G v d => Reps2 m.S G m.pen v d
theorem rP2_mono (m : Am) : (rP2 m).Mono := fun _ _ _ _ s h => Reps2.mono s h
section
variable {X : Cx} {m : Am} {pos : Pos}
theorem tPairs_of : ∀ {prs : List (EX × EX)} {σ : St} {H : Hp} {R : List (V × V) → Hp → Prop}, tY m r0 (rP2 m) () (fun _ => mPairs prs) σ H R → tPairs (prs.map fun q => (tE m q.1, tE m q.2)) σ H R
  | [], σ, H, R, ⟨G, p, δ, _, w, sl, _, h⟩ => h [] G H Ex.refl w .nil
  | (a, b) :: r, σ, H, R, h => by
    refine (tY_bind (R1 := m.rE) r0_mono h).imp fun x H1 h1 => ?_
    refine (tY_bind (R1 := m.rE) (rP_mono r0_mono (rE_mono m)) h1).imp fun y H2 h2 => ?_
    refine tPairs_of ?_
    refine (tY_bind (R1 := rP2 m) (rP_mono (rP_mono r0_mono (rE_mono m)) (rE_mono m)) h2).imp fun l H3 h3 => ?_
    obtain ⟨G, p, δ, ⟨⟨⟨_, d⟩, e⟩, ds⟩, w, sl, ⟨⟨⟨_, rx⟩, ry⟩, rl⟩, h5⟩ := h3
    exact h5 _ G H3 Ex.refl w (.cons rx ry rl)
theorem kV_of {S : Sg} {G : Hp} {pen : Addr} {v : V} {d : D} {k : Key} (r : Rep S G pen v d) (e : dKey d = some k) : v = kV k := by
  cases r <;> first | (cases e; rfl) | cases e
theorem keys_of {S : Sg} {G : Hp} {pen : Addr} : ∀ {vs : List (V × V)} {ds : List (D × D)} {kvs : List (Key × D)}, Reps2 S G pen vs ds → dKeys ds = some kvs → ∃ us : List (Key × V), vs = us.map (fun kv => (kV kv.1, kv.2)) ∧ RepK S G pen us kvs ∧ us.map (·.1) = kvs.map (·.1)
  | _, _, _, .nil, e => by cases e; exact ⟨[], rfl, .nil, rfl⟩
  | _, _, _, .cons (d := d) (ds := ds) a b r, e => by
    simp only [dKeys] at e
    cases e1 : dKey d with
    | none => rw [e1] at e; cases e
    | some k =>
      cases e2 : dKeys ds with
      | none => rw [e1, e2] at e; cases e
      | some l =>
        rw [e1, e2] at e
        cases e
        obtain ⟨us, h1, h2, h3⟩ := keys_of r e2
        have := kV_of a e1
        subst this
        exact ⟨(k, _) :: us, by rw [h1]; rfl, .cons b h2, by simp [h3]⟩
theorem putK_fresh {kvs : List (Key × V)} {k : Key} {v : V} (h : k ∉ kvs.map (·.1)) : putK kvs k v = kvs ++ [(k, v)] := by
  unfold putK
  rw [if_neg]
  simp only [List.any_eq_true, decide_eq_true_eq, not_exists, not_and]
  intro x hx e
  exact h (List.mem_map.mpr ⟨x, hx, e⟩)
theorem mergeK_nodup : ∀ (more : List (Key × V)) (kvs : List (Key × V)), ((kvs ++ more).map (·.1)).Nodup → mergeK kvs more = kvs ++ more
  | [], kvs, _ => by simp [mergeK]
  | (k, v) :: r, kvs, h => by
    have hk : k ∉ kvs.map (·.1) := fun z => by
      rw [List.map_append, List.nodup_append] at h
      exact h.2.2 k z k (by simp) rfl
    show mergeK (putK kvs k v) r = _
    rw [putK_fresh hk, mergeK_nodup r _ (by simpa using h)]
    simp
theorem me_disp {keys : List (Option Expr)} {values : List Expr} {prs : List (EX × EX)} (h : PPs X pos keys values (prs.map fun q => (tE m q.1, tE m q.2))) (hall : keys.all (·.isSome) = true) (hl : keys.length = values.length) (h0 : keys ≠ []) (hn : keys.length ≤ 15) :
    PE X (.Dict keys values pos) (tE m (mDict prs)) := by
  refine PE.imp (pe_disp h hall hl h0 hn) fun σ H Q h => ?_
  intro a ha
  obtain ⟨G, p, δ, u, w, sl, r, h⟩ := h
  have xa : Ex m.pen G H G (upd H a (.dK [])) := Ex.allocM ha
  have hL : (upd H a (.dK [])) a = some (.dK []) := upd_same
  have na : a ≠ m.pen := w.ne ha
  have ga : G a = none := w.gfree ha
  refine tPairs_of ⟨G, p, δ, (), w.allocM ha, sl.ex xa, trivial, ?_⟩
  dsimp only [mDict, M.bnd] at h ⊢
  rcases he : mPairs prs δ p with _ | ⟨o, p1⟩
  · rw [he] at h; exact h
  · rw [he] at h
    cases o with
    | ex c fs => exact fun d G' H' x' w' r' => h d G' H' (xa.trans x') w' r'
    | ok l =>
      intro ps G2 H2 x2 w2 r2
      have r2 : Reps2 m.S G2 m.pen ps l := r2
      dsimp only at h
      cases ek : dKeys l with
      | none => rw [ek] at h; exact h.elim
      | some kvs =>
        rw [ek] at h
        dsimp only at h
        split at h
        · rename_i hz
          simp only [Bool.and_eq_true, decide_eq_true_eq] at hz
          obtain ⟨us, e1, rk, e2⟩ := keys_of r2 ek
          have h2a : H2 a = some (.dK []) := x2.keep a _ na (by intro _ z; cases z) hL
          have g2a : G2 a = none := x2.un a ga (by rw [hL]; simp)
          have em : mergeK [] us = us := by
            have := mergeK_nodup us [] (by simpa [e2] using hz.1)
            simpa using this
          refine ⟨h2a, us, e1, by rw [rk.length]; exact hz.2, ?_⟩
          rw [em]
          have w3 : Wd m.S m.pen G2 (upd H2 a (.dK us)) p1 := w2.writeM h2a (by intro _ z; cases z) (by intro _ _ z; cases z) g2a na
          refine h (.ref a) (upd G2 a (.dK us)) _ ⟨x2.sub.trans (Sub.alloc g2a), fun b o hb ht e => ?_, fun b e => ?_, fun b e n => ?_⟩ (w3.freeze upd_same g2a na) (.dct upd_same (rk.mono (Sub.alloc g2a)))
          · have : b ≠ a := fun z => by rw [z, ha] at e; cases e
            rw [upd_ne this]
            exact x2.keep b o hb ht (by rw [upd_ne this]; exact e)
          · by_cases z : b = a
            · rw [z]; exact ha
            · rw [upd_ne z] at e
              have := x2.dom b e
              rw [upd_ne z] at this; exact this
          · have : b ≠ a := fun z => n (by rw [z]; exact ha)
            rw [upd_ne this]
            exact x2.un b e (by rw [upd_ne this]; exact n)
        · exact h.elim
/-- {} -/
theorem me_dict0 : PE X (.Dict [] [] pos) (tE m (mC (.dct []))) := by
  refine PE.imp pe_dnewK fun σ H Q ⟨G, p, δ, _, w, sl, _, h⟩ => ?_
  intro a ha
  exact h (.ref a) _ _ (Ex.alloc ha (w.gfree ha)) (w.alloc ha) (.dct upd_same .nil)
end
end ME

namespace ME
open PySem PySem.Spec L2

/-! ### the law's pen -/
/-- the numbers in a law's own draw -/
structure DrC where
  a1 : Int
  a0 : Int
  m1 : Int
  b1 : Int
  b0 : Int
  m2 : Int
  t0 : Int
  q1 : Int
  q0 : Int
  m3 : Int
def cellOf (C : DrC) (p : Pn) : Option Int := if p.cells = [] then some (C.a1 * p.no + C.a0) else p.cells[(p.no % (p.cells.length : Int)).toNat]?
def absI (i : Int) : Int := if i < 0 then -i else i
def mix1 (C : DrC) (no cell : Int) : Int := (cell % C.m1 + C.b1 * no + C.b0) ^ (5 : Int).toNat % C.m2
def mix2 (C : DrC) (no x : Int) : Int := (x * (2 * no + C.t0) + C.q1 * no * no + C.q0) ^ (3 : Int).toNat % C.m3
def DrC.ok (C : DrC) : Bool := decide (0 < C.m1 ∧ C.m1 < 2 ^ 32 ∧ 0 < C.m2 ∧ C.m2 < 2 ^ 32 ∧ 0 < C.m3 ∧ C.m3 < 2 ^ 32 ∧ 0 ≤ C.a1 ∧ C.a1 < 2 ^ 20 ∧ 0 ≤ C.a0 ∧ C.a0 < 2 ^ 20 ∧ 0 ≤ C.b1 ∧ C.b1 < 2 ^ 20 ∧ 0 ≤ C.b0 ∧ C.b0 < 2 ^ 20 ∧ 0 ≤ C.t0 ∧ C.t0 < 2 ^ 20 ∧ 0 ≤ C.q1 ∧ C.q1 < 2 ^ 20 ∧ 0 ≤ C.q0 ∧ C.q0 < 2 ^ 20)
def Pn.ok (p : Pn) : Prop := 0 ≤ p.no ∧ p.no ≤ 1000000 ∧ p.cells.length ≤ 63
instance (p : Pn) : Decidable p.ok := inferInstanceAs (Decidable (_ ∧ _))
/-- a draw -/
def drawF (C : DrC) (many : Int) (p : Pn) : Option (Int × Pn) :=
  if decide (0 < many) && decide (many.natAbs.log2 < 9000) && decide p.ok then
    if p.rest > 0 then some (p.rest % many, { p with rest := p.rest / many })
    else match cellOf C p with
      | none => none
      | some cell =>
        if p.no < (p.cells.length : Int) ∧ absI cell ≥ 10 ^ (18 : Int).toNat then
          some ((2 * (absI cell - 10 ^ (18 : Int).toNat) + (if cell < 0 then 1 else 0)) % many, { p with no := p.no + 1, rest := (2 * (absI cell - 10 ^ (18 : Int).toNat) + (if cell < 0 then 1 else 0)) / many })
        else some (mix2 C p.no (mix1 C p.no cell) / 32 % many, { p with no := p.no + 1 })
  else none
def mDraw (C : DrC) : List D → M D := fun ds p => match ds with
  | [.pen, .int many] => match drawF C many p with
    | some (r, p') => some (.ok (.int r), p')
    | none => none
  | _ => none
/-- what laws know of a draw -/
theorem drawF_spec {C : DrC} {many : Int} {p : Pn} {r : Int} {p' : Pn} (h : drawF C many p = some (r, p')) : 0 ≤ r ∧ r < many ∧ p'.cells = p.cells ∧ p.no ≤ p'.no ∧ p'.no ≤ p.no + 1 := by
  unfold drawF at h
  split at h
  · rename_i hz
    simp only [Bool.and_eq_true, decide_eq_true_eq] at hz
    have hm := hz.1.1
    split at h
    · cases h; exact ⟨Int.emod_nonneg _ (by omega), Int.emod_lt_of_pos _ hm, rfl, Int.le_refl _, by show p.no ≤ p.no + 1; omega⟩
    · split at h
      · cases h
      · split at h
        · cases h; exact ⟨Int.emod_nonneg _ (by omega), Int.emod_lt_of_pos _ hm, rfl, by show p.no ≤ p.no + 1; omega, Int.le_refl _⟩
        · cases h; exact ⟨Int.emod_nonneg _ (by omega), Int.emod_lt_of_pos _ hm, rfl, by show p.no ≤ p.no + 1; omega, Int.le_refl _⟩
  · cases h
theorem drawF_some {C : DrC} {many : Int} {p : Pn} (h0 : 0 < many) (h1 : many < 2 ^ 8999) (hp : p.ok) : ∃ r p', drawF C many p = some (r, p') ∧ 0 ≤ r ∧ r < many ∧ p'.cells = p.cells ∧ p.no ≤ p'.no ∧ p'.no ≤ p.no + 1 := by
  have hl : many.natAbs.log2 < 9000 := by
    have hne : many.natAbs ≠ 0 := by omega
    have : many.natAbs < 2 ^ 8999 := by omega
    have := (Nat.log2_lt hne).mpr this
    omega
  have he : ∃ q, drawF C many p = some q := by
    unfold drawF
    rw [if_pos (by simp only [Bool.and_eq_true, decide_eq_true_eq]; exact ⟨⟨h0, hl⟩, hp⟩)]
    split
    · exact ⟨_, rfl⟩
    · have : ∃ c, cellOf C p = some c := by
        unfold cellOf
        split
        · exact ⟨_, rfl⟩
        · rename_i hne
          have hlen : 0 < p.cells.length := by
            cases h : p.cells with
            | nil => exact absurd h hne
            | cons _ _ => simp
          have : (p.no % (p.cells.length : Int)).toNat < p.cells.length := by
            have a1 := Int.emod_nonneg p.no (b := (p.cells.length : Int)) (by omega)
            have a2 := Int.emod_lt_of_pos p.no (b := (p.cells.length : Int)) (by omega)
            omega
          exact ⟨_, List.getElem?_eq_getElem this⟩
      obtain ⟨c, hc⟩ := this
      rw [hc]
      dsimp only
      split
      · exact ⟨_, rfl⟩
      · exact ⟨_, rfl⟩
  obtain ⟨⟨r, p'⟩, e⟩ := he
  exact ⟨r, p', e, drawF_spec e⟩

/-- a def by its body in HandS's own terms -/
theorem fn_okR {P : Program} {w : World} {K : PySem.W.Frag} {mg : Str → Option Value} {base : Heap} {x qual : Str} {st : Stmt} {f : Addr} {fd : FuncData} {N ps : List Str} {k : Nat} {sp : Sp} (F : FunG K x qual st f fd) (Sc : FnScope N ps (defScope st))
    (len : ∀ vs H Q E, sp vs H Q E → vs.length = ps.length)
    (hb : ∀ (cdv : Value) (A : Around) (outer : List Env) (s : Shared) (H : Hp) (vs : List V) (Q : VK) (E : XK), fd.code = cdv → A.guards = some [] → Room k (A.deeper (PyProof.Rows.envOfC qual (defScope st) s.heap.objs.size f cdv)) → sp vs H Q E →
      ∃ t, PSs (cxOf (L2.CX P w) P w K mg base N qual (defScope st) f cdv A outer s H E) (defBody st) t ∧ t { nx := fun _ H' => Q .non H', rt := Q } (start N vs) H) :
    FnG P w K mg base (k + 1) f fd ps sp := by
  refine ⟨len, fun A outer s H args us vs Q E hg hr e0 hbd r sp => ?_⟩
  obtain ⟨oc, od, dV, kV, doc, pm, an, cdv, ct, osl, rfl, lk, hcd⟩ := F.ex
  exact LamX.run_ofS lk hcd Sc hr e0 hbd r (len vs H Q E sp) fun hr' => hb cdv A outer s H vs Q E rfl hg hr' sp
end ME

namespace ME
open PySem PySem.Spec L2

/-! ### the pen's own list, read and written -/
def dIxP : D → D → M D
  | .pen, .int i => fun p => if i = 0 then some (.ok (.lst (p.cells.map D.int)), p) else if i = 1 then some (.ok (.int p.no), p) else if i = 2 then some (.ok (.int p.rest), p) else none
  | _, _ => M.stuck
/-- pen[k] = e -/
def sPen (i : Nat) (k : Int) (e : EX) : SX := sBnd e fun d δ p => match d, δ[i]? with
  | .int z, some (some (.d .pen)) => if k = 1 then some (.nx δ, { p with no := z }) else if k = 2 then some (.nx δ, { p with rest := z }) else none
  | _, _ => none
def dDivW : D → D → M D
  | .int i, .int j => if decide (0 < j) && decide (j.natAbs.log2 < 9000) then M.ret (.int (i / j)) else M.stuck
  | _, _ => M.stuck
def dAbs : List D → M D
  | [.int i] => M.ret (.int (if i < 0 then -i else i))
  | _ => M.stuck
def dInt1 : List D → M D
  | [.int i] => M.ret (.int i)
  | [.bl k] => M.ret (.int (if k then 1 else 0))
  | _ => M.stuck
theorem reps_ints {S : Sg} {G : Hp} {pen : Addr} : ∀ l : List Int, Reps S G pen (l.map V.int) (l.map D.int)
  | [] => .nil
  | i :: l => .cons (.int i) (reps_ints l)
theorem ints_reps {S : Sg} {G : Hp} {pen : Addr} : ∀ {vs : List V} {l : List Int}, Reps S G pen vs (l.map D.int) → vs = l.map V.int
  | _, [], .nil => rfl
  | _, _ :: _, .cons (.int _) r => by rw [ints_reps r]; rfl
section
variable {X : Cx} {m : Am} {a b e : Expr} {es : List Expr} {pos : Pos} {ea eb : EX} {ra : AX}
theorem r_ixP : R2Ok m (rIxL X.K) dIxP := by
  rintro σ x y H Q ⟨G, p, δ, ⟨⟨_, dx⟩, dy⟩, w, sl, ⟨⟨_, rx⟩, ry⟩, h⟩
  have rx : Rep m.S G m.pen x dx := rx
  have ry : Rep m.S G m.pen y dy := ry
  cases rx with
  | pen => cases ry with
    | int i =>
      obtain ⟨l, e1, e2⟩ := id w.pn
      dsimp only [dIxP] at h
      split at h
      · rename_i hz; subst hz
        exact ⟨m.pen, _, 0, _, rfl, rfl, .of e1, rfl, h (.ref l) G H Ex.refl w (.lst e2 (reps_ints _))⟩
      · split at h
        · rename_i hz; subst hz
          exact ⟨m.pen, _, 1, _, rfl, rfl, .of e1, rfl, h _ G H Ex.refl w (.int _)⟩
        · split at h
          · rename_i hz; subst hz
            exact ⟨m.pen, _, 2, _, rfl, rfl, .of e1, rfl, h _ G H Ex.refl w (.int _)⟩
          · exact h.elim
    | _ => exact h.elim
  | _ => exact h.elim
theorem me_ixP (ha : PE X a (tE m ea)) (hb : PE X b (tE m eb)) (hs : PlainIx b) : PE X (.Subscript a b pos) (tE m (mBin dIxP ea eb)) := by
  refine PE.imp (pe_ix ix_list ha hb hs) fun σ H Q h => ?_
  refine (tY_bind (R1 := m.rE) r0_mono h).imp fun x H1 h2 => ?_
  exact (tY_bind (R1 := m.rE) (rP_mono r0_mono (rE_mono m)) h2).imp fun y H2 h4 => r_ixP σ x y H2 Q h4
theorem r_divW : R2Ok m (rI CDivW fun i j => .int (i / j)) dDivW := by
  rintro σ x y H Q ⟨G, p, δ, ⟨⟨_, dx⟩, dy⟩, w, sl, ⟨⟨_, rx⟩, ry⟩, h⟩
  have rx : Rep m.S G m.pen x dx := rx
  have ry : Rep m.S G m.pen y dy := ry
  cases rx with
  | int i => cases ry with
    | int j =>
      dsimp only [dDivW] at h
      split at h
      · rename_i hz
        simp only [Bool.and_eq_true, decide_eq_true_eq] at hz
        exact ⟨i, j, rfl, rfl, hz, fin_same w (.int _) h⟩
      · exact h.elim
    | _ => exact h.elim
  | _ => exact h.elim
theorem r_abs : RAOk m (fun xs H Q => ∃ i, xs = [.int i] ∧ Q (.int (if i < 0 then -i else i)) H) dAbs := by
  rintro σ xs H Q ⟨G, p, δ, ⟨_, ds⟩, w, sl, ⟨_, r⟩, h⟩
  have r : Reps m.S G m.pen xs ds := r
  cases r with
  | nil => exact h.elim
  | cons r1 r2 => cases r2 with
    | nil => cases r1 with
      | int i => exact ⟨i, rfl, fin_same w (.int _) h⟩
      | _ => exact h.elim
    | cons _ _ =>
      cases r1 <;> exact h.elim
theorem r_int1 : RAOk m (fun xs H Q => (∃ i, xs = [.int i] ∧ Q (.int i) H) ∨ ∃ k, xs = [.bl k] ∧ Q (.int (if k then 1 else 0)) H) dInt1 := by
  rintro σ xs H Q ⟨G, p, δ, ⟨_, ds⟩, w, sl, ⟨_, r⟩, h⟩
  have r : Reps m.S G m.pen xs ds := r
  cases r with
  | nil => exact h.elim
  | cons r1 r2 => cases r2 with
    | nil => cases r1 with
      | int i => exact .inl ⟨i, rfl, fin_same w (.int _) h⟩
      | bl i => exact .inr ⟨i, rfl, fin_same w (.int _) h⟩
      | _ => exact h.elim
    | cons _ _ =>
      cases r1 <;> exact h.elim
/-- the pen is written -/
theorem Wd.penSet {S : Sg} {pen : Addr} {G H : Hp} {p p' : Pn} (w : Wd S pen G H p) {l : Addr} (hl : H pen = some (.lst [.ref l, .int p.no, .int p.rest])) (hc : G l = some (.lst (p.cells.map V.int))) (e : p'.cells = p.cells) : Wd S pen G (upd H pen (.lst [.ref l, .int p'.no, .int p'.rest])) p' := by
  refine ⟨fun b u q => ?_, w.np, ⟨l, upd_same, by rw [e]; exact hc⟩, ?_, w.gt⟩
  · have : b ≠ pen := fun z => by rw [z, w.np] at q; cases q
    rw [upd_ne this]; exact w.sub b u q
  · intro t ht
    obtain ⟨ps, h1, h2, h3⟩ := w.tabs t ht
    refine ⟨ps, ?_, h2, fun pos cv hc => ?_⟩
    · have : t.1 ≠ pen := fun z => by rw [z, hl] at h1; cases h1
      rw [upd_ne this]; exact h1
    · obtain ⟨c', e1, e2⟩ := h3 pos cv hc
      have : c' ≠ pen := fun z => by rw [z, hl] at e2; exact lst_code _ _ (Option.some.inj e2)
      exact ⟨c', e1, by rw [upd_ne this]; exact e2⟩
theorem Ex.penSet {pen : Addr} {G H : Hp} {o : HO} (h : H pen ≠ none) : Ex pen G H G (upd H pen o) :=
  ⟨Sub.refl _, fun b u hb _ e => by rw [upd_ne hb]; exact e, fun b e => by
    by_cases z : b = pen
    · subst z; rw [upd_same] at e; cases e
    · rw [upd_ne z] at e; exact e, fun b e _ => e⟩
theorem ms_pen {i : Nat} {x : Str} {k : Int} {j : Nat} {p1 p2 p3 : Pos} (hN : X.N[i]? = some x) (hv : Vis X.env.scope x) (he : PE X e (tE m ea)) (hd : (x == ("__debug__" : Str)) = false := by decide) (hcd : (x == ("__classdict__" : Str)) = false := by decide)
    (ha : ∀ v, assign (.Subscript (.Name x p1) (.Constant (.int k) j p2) p3) X.env v = (do
      let ov ← holding [v] (eval (.Name x p1) X.env)
      let iv ← holding [v, ov] (eval (.Constant (.int k) j p2) X.env)
      standAt p3
      holding [v, ov, iv] (setItem ov iv v)
      release [v, ov, iv] []) := by intro _; rfl)
    (hs : swapsWithSole [.Subscript (.Name x p1) (.Constant (.int k) j p2) p3] e pos.line X.env = pure false := by rfl) (hw : swappedStores [.Subscript (.Name x p1) (.Constant (.int k) j p2) p3] e X.env = pure none := by rfl)
    (h1 : (assignEach [.Subscript (.Name x p1) (.Constant (.int k) j p2) p3] X.env).map (·.2) = [assign (.Subscript (.Name x p1) (.Constant (.int k) j p2) p3) X.env] := by rfl) :
    PS X (.Assign [.Subscript (.Name x p1) (.Constant (.int k) j p2) p3] e pos) (tS m (sPen i k ea)) := by
  refine PS.imp (ps_asg he (pg_sub (pe_var hN hv hd hcd) pe_int set_list ha) hs hw h1) fun K σ H h => ?_
  refine (tS_bind (R := m.rE) h).imp fun v H1 ⟨d, G, p, δ, w, x, sl, r, q⟩ => ?_
  have r : Rep m.S G m.pen v d := r
  split at q
  · rename_i z ep r0
    cases r with
    | int _ =>
    obtain ⟨u, e1, r1⟩ := sl.val i _ ep
    cases r1 with
    | pen =>
    obtain ⟨l, hl, hc⟩ := id w.pn
    split at q
    · rename_i hk
      subst hk
      refine ⟨.ref m.pen, e1, m.pen, _, 1, 1, rfl, rfl, hl, rfl, ?_⟩
      have w1 : Wd m.S m.pen G _ { p with no := z } := w.penSet hl hc rfl
      have x1 : Ex m.pen G H1 G (upd H1 m.pen (.lst [.ref l, .int z, .int p.rest])) := Ex.penSet (by rw [hl]; simp)
      exact q σ G _ (Sub.refl _) w1 (x.trans x1) (sl.ex x1)
    · split at q
      · rename_i hk
        subst hk
        refine ⟨.ref m.pen, e1, m.pen, _, 2, 2, rfl, rfl, hl, rfl, ?_⟩
        have w1 : Wd m.S m.pen G _ { p with rest := z } := w.penSet hl hc rfl
        have x1 : Ex m.pen G H1 G (upd H1 m.pen (.lst [.ref l, .int p.no, .int z])) := Ex.penSet (by rw [hl]; simp)
        exact q σ G _ (Sub.refl _) w1 (x.trans x1) (sl.ex x1)
      · exact q.elim
  · exact q.elim
end
end ME

/-! The end of a law's row for promises of the form FnG. -/
namespace ME
open PySem PySem.Spec PyProof.Rows L2

/-- the abstract heap at the law's call: the script (unless it is known by K), the tables -/
noncomputable def H0 (K : PySem.W.Frag) (a : Addr) (o : Obj) (ns : List Int) (tb : List Addr) : Hp := fun b =>
  if b = a ∧ K.lookup a = none then some (.frz o (.lst (ns.map V.int))) else if b ∈ tb then some (.tbl #[]) else none
section
variable {P : Program} {w : World} {K : PySem.W.Frag} {mg mb : Str → Option Value} {a : Addr} {cs : List (Addr × Addr)} {s : Shared} {vs : List Value} {ns : List Int}
abbrev objL (vs : List Value) : Obj := { cls := .type "list", data := .seq vs.toArray }
abbrev objT : Obj := { cls := .none, data := .fields #[] }
theorem H0_tab (ha : s.heap.get? a = some (objL vs)) {tb : List Addr} (hT : ∀ t ∈ tb, s.heap.get? t = some objT) {t : Addr} (h : t ∈ tb) : H0 K a (objL vs) ns tb t = some (.tbl #[]) := by
  have : t ≠ a := fun z => by
    have q := hT t h
    rw [z, ha] at q
    cases q
  unfold H0
  rw [if_neg (fun z => this z.1), if_pos h]
theorem H0_cases {o : Obj} {tb : List Addr} {b : Addr} {u : HO} (h : H0 K a o ns tb b = some u) : (b = a ∧ K.lookup a = none ∧ u = .frz o (.lst (ns.map V.int))) ∨ (b ∈ tb ∧ u = .tbl #[]) := by
  unfold H0 at h
  split at h
  · rename_i z; exact .inl ⟨z.1, z.2, (Option.some.inj h).symm⟩
  · split at h
    · rename_i z; exact .inr ⟨z, (Option.some.inj h).symm⟩
    · cases h
theorem H0_sq (KX : K.In s.heap) (ha : s.heap.get? a = some (objL vs)) (hi : IntsAre vs ns) (hl : ns.length ≤ sizeLine) {tb : List Addr} : SqL K (H0 K a (objL vs) ns tb) a (ns.map V.int) := by
  cases hk : K.lookup a with
  | none => exact .inl (.inr ⟨objL vs, by unfold H0; rw [if_pos ⟨rfl, hk⟩]⟩)
  | some o =>
    have e := KX a o hk
    rw [ha] at e
    cases e
    exact .inr ⟨_, vs.toArray, _, hk, rfl, rfl, rfl, by rw [List.size_toArray, hi.length]; exact hl, by simpa using vals_ints hi⟩
theorem H0_ok (ha : s.heap.get? a = some (objL vs)) (hi : IntsAre vs ns) (hl : ns.length ≤ sizeLine) {tb : List Addr} (hT : ∀ t ∈ tb, s.heap.get? t = some objT) : HOk P w (H0 K a (objL vs) ns tb) s.heap := by
  intro b u h
  rcases H0_cases h with ⟨rfl, _, rfl⟩ | ⟨hb, rfl⟩
  · exact ⟨ha, by rw [List.length_map]; exact hl, vs, _, vals_ints hi, ha⟩
  · exact hT b hb
/-- what is neither a list nor a table is untracked at the start -/
theorem H0_none (ha : s.heap.get? a = some (objL vs)) {tb : List Addr} (hT : ∀ t ∈ tb, s.heap.get? t = some objT) {b : Addr} {o : Obj} (e : s.heap.get? b = some o) (h1 : ∀ us n, o.data ≠ .seq us n) (h2 : o.data ≠ .fields #[]) : H0 K a (objL vs) ns tb b = none := by
  cases q : H0 K a (objL vs) ns tb b with
  | none => rfl
  | some u =>
    rcases H0_cases q with ⟨rfl, _, _⟩ | ⟨hb, _⟩
    · rw [ha] at e; cases e; exact (h1 _ _ rfl).elim
    · rw [hT b hb] at e; cases e; exact (h2 rfl).elim
/-- THE START AND THE END of a law's call -/
theorem law_callG {k : Nat} {fa : Addr} {fd : FuncData} {x : Str} {sp : Sp}
    (KX : K.In s.heap) (hns : s.heap.Ns mainGlobals mg) (hb : s.heap.Ns builtinsNs mb) (hbb : ∀ x : Str, x ≠ "__name__" → mb x = bootBuiltins x) (hlim : s.heap.NoLimit) (hg : s.gens = #[])
    (hT : ∀ p ∈ cs, s.heap.get? p.2 = some objT) (nT : ∀ p ∈ cs, K.lookup p.2 = none) (C : ∀ p ∈ cs, PySem.W.CodeHd s.heap p.1 p.2)
    (hsy : ∃ mm, s.heap.Ns sysModules mm) (hbm : ∃ (bm : Addr) (ob : Obj), mg "__builtins__" = some (.ref bm) ∧ bm ≠ builtinsNs ∧ s.heap.get? bm = some ob ∧ ob.cls = .type "module" ∧ ob.dict = some builtinsNs ∧ ob.data = .plain)
    (ha : s.heap.get? a = some (objL vs)) (hi : IntsAre vs ns) (hl : ns.length ≤ sizeLine) (hr : Room k callerA)
    (F : ∀ base : Heap, K.In base → base.Ns mainGlobals mg → (∃ o, base.get? sysModules = some o) → (∀ p ∈ cs, LamX.TabB base mg p.1 p.2) → FnG P w K mg base k fa fd [x] sp) (hbind : ∀ (s : Shared) (u : Value), BindsTo s fd ⟨[u], []⟩ [(x, u)])
    (hsp : ∀ H : Hp, (∀ p ∈ cs, H p.2 = some (.tbl #[])) → SqL K H a (ns.map V.int) → sp [.ref a] H (fun v _ => v = .bl true) fun _ _ _ => False) :
    codeAny (model P w) callerA (.call (.ref fa) ⟨[.ref a], []⟩) (fun r s' => r = .ok (.ret (.bool true)) ∧ OldK s.heap s'.heap ∧ s'.os = s.os ∧ AllBare s'.gens) s := by
  have hTb : ∀ t ∈ cs.map (·.2), s.heap.get? t = some objT := fun t ht => by
    obtain ⟨p, hp, e⟩ := List.mem_map.mp ht
    rw [← e]; exact hT p hp
  have memT : ∀ p ∈ cs, p.2 ∈ cs.map (·.2) := fun p hp => List.mem_map.mpr ⟨p, hp, rfl⟩
  obtain ⟨H, hH⟩ : ∃ H, H = H0 K a (objL vs) ns (cs.map (·.2)) := ⟨_, rfl⟩
  have up : ∀ {b : Addr} {o : Obj}, s.heap.get? b = some o → H b = none → (hidT s.heap H).get? b = some o := fun e n => hidT_get e n
  have free : ∀ {b : Addr} {o : Obj}, s.heap.get? b = some o → (∀ us n, o.data ≠ .seq us n) → o.data ≠ .fields #[] → H b = none := fun e h1 h2 => by rw [hH]; exact H0_none ha hTb e h1 h2
  have nsK : ∀ {b : Addr} {m : Str → Option Value}, s.heap.Ns b m → (hidT s.heap H).Ns b m := fun ⟨o, es, ep, e, d, r⟩ => ⟨o, es, ep, up e (free e (by intro us n z; rw [d] at z; cases z) (by intro z; rw [d] at z; cases z)), d, r⟩
  have hKb : K.In (hidT s.heap H) := fun b o e => up (KX b o e) (by
    cases q : H b with
    | none => rfl
    | some u =>
      rw [hH] at q
      rcases H0_cases q with ⟨rfl, hk, _⟩ | ⟨hb, _⟩
      · rw [hk] at e; cases e
      · obtain ⟨p, hp, ep⟩ := List.mem_map.mp hb
        rw [← ep, nT p hp] at e; cases e)
  have TB : ∀ p ∈ cs, LamX.TabB (hidT s.heap H) mg p.1 p.2 := fun p hp => by
    have hTp := hT p hp
    refine ⟨?_, ?_, fun z => ?_⟩
    · obtain ⟨o, us, file, tf, flags, tg, inF, text, tt, e1, r1, r2, r3, rest⟩ := C p hp
      exact ⟨o, us, file, tf, flags, tg, inF, text, tt, up e1 (free e1 (by intro us n z; rw [r2] at z; cases z) (by intro z; rw [r2] at z; cases z; simp at r3)), r1, r2, r3, rest⟩
    · obtain ⟨bm, ob, b1, b2, b3, b4, b5, b6⟩ := hbm
      refine ⟨bm, ob, b1, b2, fun q => ?_, fun q => ?_, up b3 (free b3 (by intro us n z; rw [b6] at z; cases z) (by intro z; rw [b6] at z; cases z)), b4, b5, b6⟩
      · obtain ⟨o, es, ep, e, hd, _⟩ := hns
        rw [q, e] at b3; cases b3; rw [hd] at b6; cases b6
      · rw [q, hTp] at b3; cases b3; cases b6
    · obtain ⟨o, es, ep, e, hd, _⟩ := hns
      rw [z, hTp] at e; cases e; cases hd
  have hok : HOk P w H s.heap := by rw [hH]; exact H0_ok ha hi hl hTb
  have hM : L2.Mod K mg (hidT s.heap H) := ⟨hKb, nsK hns, ⟨mb, nsK hb, hbb⟩, let ⟨mc, h1, h2⟩ := hlim; ⟨mc, nsK h1, h2⟩⟩
  have e0 : Env0 P w K mg (hidT s.heap H) callerA [] s H := ⟨rfl, hM, fun b o e => of_hidT e, Nat.le_of_eq (hidT_size _ _), trivial, fun b hb => absurd (show b ∈ ([] : List Addr) from hb) (by simp), hok, .of_eq hg⟩
  have sps := hsp H (fun p hp => by rw [hH]; exact H0_tab ha hTb (memT p hp)) (by rw [hH]; exact H0_sq KX ha hi hl)
  refine codeAny_mono ((F _ hKb (nsK hns) (by obtain ⟨mm, y⟩ := hsy; obtain ⟨o, _, _, e, _⟩ := nsK y; exact ⟨o, e⟩) TB).run callerA [] s H ⟨[.ref a], []⟩ [.ref a] [.ref a] _ _ rfl hr e0 (hbind s (.ref a)) (.cons rfl .nil) sps) fun r s' h => ?_
  cases r with
  | error e => obtain ⟨_, _, _, _, _, _, _, _, _, _, _, _, z⟩ := h; exact z.elim
  | ok fl =>
    cases fl with
    | next => exact False.elim h
    | brk => exact False.elim h
    | cont => exact False.elim h
    | ret u =>
      obtain ⟨v, H', os, bare, un, hok', r', q⟩ := h
      have q' : v = .bl true := q
      subst q'
      obtain rfl : u = Value.bool true := r'
      have key : ∀ b o, s.heap.get? b = some o → s'.heap.get? b = some o ∨ ∃ p ∈ cs, p.2 = b := fun b o e => by
        cases q : H b with
        | none => exact .inl (un.keep b o e q (by intro z; exact absurd (show b ∈ ([] : List Addr) from z) (by simp)) (by simp))
        | some u =>
          have q0 := q
          rw [hH] at q0
          rcases H0_cases q0 with ⟨rfl, _, rfl⟩ | ⟨hb, _⟩
          · have z2 := un.frzs _ _ _ q
            obtain ⟨e2, _⟩ := hok' _ _ z2
            rw [ha] at e; cases e
            exact .inl e2
          · obtain ⟨p, hp, ep⟩ := List.mem_map.mp hb
            exact .inr ⟨p, hp, ep⟩
      have grown : ∀ p ∈ cs, ∃ more : Array Value, s'.heap.get? p.2 = some { cls := .none, data := .fields more } := fun p hp => by
        obtain ⟨more, z⟩ := un.tbls p.2 #[] (by rw [hH]; exact H0_tab ha hTb (memT p hp))
        exact ⟨_, hok' p.2 _ z⟩
      refine ⟨rfl, ⟨fun b o e => ?_, fun b o e => ?_⟩, os, bare⟩
      · rcases key b o e with z | ⟨p, hp, rfl⟩
        · exact .inl z
        · obtain ⟨more, hm⟩ := grown p hp
          rw [hT p hp] at e
          cases e
          exact .inr (.inl ⟨((C p hp).tab (hT p hp)).isCodeTable, rfl, #[], more, rfl, by rw [Array.empty_append]; exact hm⟩)
      · rcases key b o e with z | ⟨p, hp, rfl⟩
        · exact ⟨o, z⟩
        · obtain ⟨more, hm⟩ := grown p hp
          exact ⟨_, hm⟩
end
theorem seer_sys {h : Heap} (x : h.NoSeer) : ∃ mm, h.Ns sysModules mm := let ⟨mm, h1, _⟩ := x.mods; ⟨mm, h1⟩
/-- what is known of the law's def at the head's heap h -/
def LawAtG (l : PySem.W.OpenLaw) (w : World) (K : PySem.W.Frag) (k n : Nat) (x : Str) (mg : Str → Option Value) (fa : Addr) (h : Heap) : Prop :=
  ∃ (fd : FuncData) (cs : List (Addr × Addr)) (sp : Sp), (∀ p ∈ cs, h.get? p.2 = some objT) ∧ (∀ p ∈ cs, K.lookup p.2 = none) ∧ (∀ p ∈ cs, PySem.W.CodeHd h p.1 p.2) ∧ (∀ (s : Shared) (u : Value), BindsTo s fd ⟨[u], []⟩ [(x, u)]) ∧
    (∀ (H : Hp) (a : Addr) (ns : List Int), ns.length ≤ n → (∀ p ∈ cs, H p.2 = some (.tbl #[])) → SqL K H a (ns.map V.int) → sp [.ref a] H (fun v _ => v = .bl true) fun _ _ _ => False) ∧
    ∀ base : Heap, K.In base → base.Ns mainGlobals mg → (∃ o, base.get? sysModules = some o) → (∀ p ∈ cs, LamX.TabB base mg p.1 p.2) → FnG l.prog w K mg base k fa fd [x] sp
theorem walk_ofG {l : PySem.W.OpenLaw} {n k : Nat} {q : Program} {loose : List Str} {XP : (Str → Option Value) → Heap → Prop} {YP : World → Heap → Prop} {d : DefRec} {K : Params → PySem.W.Frag} {x : Str}
    (hn : l.most = some n) (hn2 : n ≤ sizeLine) (hdf : d.params.defaults = []) (hr : Room k callerA) (hq : importsNone q = true) (hY : ∀ (w : World) (h : Heap), YP w h → (K w.params).In h)
    (F : ∀ (w : World) (mg : Str → Option Value) (fa : Addr) (h : Heap), YP w h → (K w.params).In h → h.Ns mainGlobals mg → mg d.name = some (.ref fa) → LawAtG l w (K w.params) k n x mg fa h) :
    PySem.W.WalkO q loose XP YP l.row.toRowW d [] (fun f vs => PySem.call f vs) := by
  refine Att.attach_callB hn hdf fun w s₀ s₁ mg mb fa o pm cd doc a vs ns G Y ho hd hcd hmg hobj hints hlen hbits hg => ?_
  have KX := hY w _ Y
  obtain ⟨fd, cs, sp, hT, nT, C, hb, hsp, hF⟩ := F w mg fa _ Y KX G.T.g hmg
  exact law_callG KX G.T.g G.T.b G.T.builtins G.T.nolimit hg hT nT C (seer_sys (G.T.seer hq)) G.T.bmain hobj hints (Nat.le_trans hlen hn2) hr hF hb fun H hH hS => hsp H a ns hlen hH hS
end ME

/-! The law's def: the pen is made, then the rest as a mirror. -/
namespace ME
open PySem PySem.Spec PyProof.Rows L2

abbrev penBody (p1 p2 p3 p4 p5 p6 p7 p8 p9 p10 : Pos) (k1 k2 k3 : Nat) : List Stmt :=
  [.Return (some (.List [.Call (.Name "list" p1) [.Subscript (.Name "_law_script" p2) (.Slice none (some (.Constant (.int 63) k1 p3)) none p4) p5] [] p6, .Constant (.int 0) k2 p7, .Constant (.int 0) k3 p8] p9)) p10]
def spPen (K : PySem.W.Frag) : Sp := fun vs H Q _ => ∃ (a : Addr) (ns : List Int), vs = [.ref a] ∧ SqL K H a (ns.map V.int) ∧
  ∀ (l0 l pen : Addr), H l0 = none → upd H l0 (.lst ((ns.take 63).map V.int)) l = none → upd (upd H l0 (.lst ((ns.take 63).map V.int))) l (.lst ((ns.take 63).map V.int)) pen = none →
    Q (.ref pen) (upd (upd (upd H l0 (.lst ((ns.take 63).map V.int))) l (.lst ((ns.take 63).map V.int))) pen (.lst [.ref l, .int 0, .int 0]))
theorem cut63 (ns : List Int) : cutV (ns.map V.int) none (some 63) = (ns.take 63).map V.int := by
  unfold cutV
  simp [HT.sIx, List.map_take]
theorem fn_pen {P : Program} {w : World} {K : PySem.W.Frag} {mg : Str → Option Value} {base : Heap} {qual : Str} {st : Stmt} {f : Addr} {fd : FuncData} {p1 p2 p3 p4 p5 p6 p7 p8 p9 p10 : Pos} {k1 k2 k3 : Nat}
    (F : FunG K "_law_pen" qual st f fd) (Sc : FnScope ["_law_script"] ["_law_script"] (defScope st)) (hl : (defScope st).names.lookup ("list" : Str) = some .globalImplicit) (hv : Vis (defScope st) "_law_script") (hm : mg "list" = none)
    (hb : defBody st = penBody p1 p2 p3 p4 p5 p6 p7 p8 p9 p10 k1 k2 k3) : FnG P w K mg base 1 f fd ["_law_script"] (spPen K) := by
  refine fn_okR (k := 0) F Sc (fun vs H Q E h => by obtain ⟨a, ns, rfl, _⟩ := h; rfl) fun cdv A outer s H vs Q E hcv hg hr h => ?_
  rw [hb]
  refine ⟨_, pss_one (ps_ret (pe_lst (pa_cons (pe_callTy call_list_of (show Gl _ _ from hl) hm rfl (pa_cons (pe_slice sl_list (pe_var (i := 0) rfl hv) po_none (po_some pe_int)) pa_nil)) (pa_cons pe_int (pa_cons pe_int pa_nil))))), ?_⟩
  obtain ⟨a, ns, rfl, hs, q⟩ := h
  refine ⟨.ref a, rfl, _, rfl, a, _, rfl, hs, fun l0 h0 => ?_⟩
  refine ⟨l0, _, rfl, .inl (.of upd_same), fun l h1 => ?_⟩
  rw [cut63] at h1 ⊢
  exact ⟨show 3 ≤ sizeLine by rw [sizeLine_eq]; decide, fun pen h2 => q l0 l pen h0 h1 h2⟩
/-- the slots at the law's start, the pen made -/
def lawDs (n : Nat) : DS := none :: some (.d .pen) :: List.replicate (n - 2) none
def spLaw (S : Sg) (n : Nat) (body : SX) : Sp := fun vs H Q _ => ∃ (a : Addr) (ns : List Int), vs = [.ref a] ∧ SqL S.K H a (ns.map V.int) ∧ LamX.Tabs S.T H ∧ ∃ p', body (lawDs n) ⟨ns.take 63, 0, 0⟩ = some (.rt (.bl true), p') ∧ ∀ H', Q (.bl true) H'
theorem law_okM {P : Program} {w : World} {K : PySem.W.Frag} {mg : Str → Option Value} {base : Heap} {x qual pn : Str} {st : Stmt} {f fp : Addr} {fd fdp : FuncData} {N : List Str} {k : Nat} {S : Sg} {body : SX} {p1 p2 p3 p4 p5 : Pos} {rest : List Stmt}
    (hK : K = S.K) (F : FunG K x qual st f fd) (Sc : FnScope N ["_law_script"] (defScope st)) (hst : defBody st = .Assign [.Name pn p1] (.Call (.Name "_law_pen" p2) [.Name "_law_script" p3] [] p4) p5 :: rest)
    (h0 : N[0]? = some ("_law_script" : Str)) (h1 : N[1]? = some pn) (hN2 : 2 ≤ N.length) (hl : Loc (defScope st) pn) (hv : Vis (defScope st) "_law_script") (hgl : (defScope st).names.lookup ("_law_pen" : Str) = some .globalImplicit)
    (FP : FnG P w K mg base k fp fdp ["_law_script"] (spPen K)) (bp : Bd K fdp ["_law_script"] 1 [] [] [.p 0]) (hmp : mg "_law_pen" = some (.ref fp)) (hkp : PySem.W.keepIn K (.ref fp) = true)
    (hsw : ∀ env : Env, swapsWith (.Call (.Name "_law_pen" p2) [.Name "_law_script" p3] [] p4) (some (.Name pn p1)) p5.line env = pure false)
    (hb : ∀ (cdv : Value) (A : Around) (outer : List Env) (s : Shared) (pen : Addr) (G0 B H : Hp) (E : XK), fd.code = cdv → A.guards = some [] → Room k (A.deeper (envOfC qual (defScope st) s.heap.objs.size f cdv)) →
      PSs (cxOf (L2.CX P w) P w K mg base N qual (defScope st) f cdv A outer s H E) rest (tS ⟨S, pen, G0, B, fun c d _ H' => E c d H'⟩ body)) :
    FnG P w K mg base (k + 1) f fd ["_law_script"] (spLaw S N.length body) := by
  subst hK
  refine fn_okR F Sc (fun vs H Q E h => by obtain ⟨a, ns, rfl, _⟩ := h; rfl) fun cdv A outer s H vs Q E hcv hg hr h => ?_
  have hpe : PE (cxOf (L2.CX P w) P w S.K mg base N qual (defScope st) f cdv A outer s H E) (.Call (.Name "_law_pen" p2) [.Name "_law_script" p3] [] p4) (fun σ H Q => ∃ u, σ[0]? = some (some u) ∧ spPen S.K [u] H Q fun _ _ _ => False) := by
    refine ⟨fun pins s1 σ Hx Q I h => ?_⟩
    refine wpAny_Call_Name_kw (ld_glob I (show Gl _ _ from hgl) hmp ?_)
    have pv := pa_cons (pe_var (X := cxOf (L2.CX P w) P w S.K mg base N qual (defScope st) f cdv A outer s H E) (pos := p3) h0 hv) pa_nil
    obtain ⟨u, e1, sp⟩ := h
    refine PySem.W.callWith_K (h₀ := base) I.ok.mod.kin hkp (thn (pv.run p4 pins s1 σ Hx (fun vs H1 => ∃ u, vs = [u] ∧ spPen S.K [u] H1 Q fun _ _ _ => False) I ⟨u, e1, u, rfl, sp⟩) fun us s2 ⟨vs, H1, I1, r, u, ev, q⟩ => ⟨I1.kIn, ?_⟩) rfl rfl
    subst ev
    obtain ⟨its, vd, bd⟩ := bp.ex
    cases vd
    have lu : us.length = 1 := by rw [← r.length]; rfl
    have bt := bd s2 us [] I1.kIn lu rfl
    have pk : pick us ([] : List Value) [] [.p 0] = us := by
      match us, lu with
      | [y], _ => rfl
    rw [pk] at bt
    refine wpAny_call (codeAny_mono (FP.run _ _ s2 H1 ⟨us, []⟩ us [u] Q (fun _ _ _ => False) (show A.guards = some [] from hg) hr I1.env0 bt r q) fun r s' hq => ?_)
    cases r with
    | error e => obtain ⟨_, _, _, _, _, _, _, _, _, _, _, _, z⟩ := hq; exact z.elim
    | ok fl =>
      cases fl with
      | ret u => exact I1.after hq
      | next => exact False.elim hq
      | brk => exact False.elim hq
      | cont => exact False.elim hq
  rw [hst]
  have hrest : PSs (cxOf (L2.CX P w) P w S.K mg base N qual (defScope st) f cdv A outer s H E) rest (fun K σ H1 => ∃ pen G0 B, tS ⟨S, pen, G0, B, fun c d _ H' => E c d H'⟩ body K σ H1) :=
    ⟨fun pins s2 σ H2 K I ⟨pen, G0, B, q⟩ => (hb cdv A outer s pen G0 B H E hcv hg hr).run pins s2 σ H2 K I q⟩
  refine ⟨_, pss_cons (ps_set Sc.nd h1 hl hpe (hsw _) (.inl rfl)) hrest, ?_⟩
  obtain ⟨a, ns, rfl, hs, ht, p', hbody, hq⟩ := h
  refine ⟨.ref a, rfl, a, ns, rfl, hs, fun l0 l pen e0 e1 e2 => ?_⟩
  obtain ⟨H1, hH1⟩ : ∃ H1, H1 = upd H l0 (.lst ((ns.take 63).map V.int)) := ⟨_, rfl⟩
  rw [← hH1] at e1 e2 ⊢
  obtain ⟨H2, hH2⟩ : ∃ H2, H2 = upd H1 l (.lst ((ns.take 63).map V.int)) := ⟨_, rfl⟩
  rw [← hH2] at e2 ⊢
  have npl : pen ≠ l := fun z => by rw [z, hH2, upd_same] at e2; cases e2
  let G : Hp := upd (fun _ => none) l (.lst ((ns.take 63).map V.int))
  refine ⟨pen, G, upd H2 pen (.lst [.ref l, .int 0, .int 0]), G, ⟨ns.take 63, 0, 0⟩, lawDs N.length, ⟨?_, ?_, ⟨l, upd_same, upd_same⟩, ?_, ?_⟩, Ex.refl, ?_, ?_⟩
  · intro b o hb
    by_cases z : b = l
    · subst z
      rw [upd_ne (Ne.symm npl), hH2, upd_same]
      simpa [G, upd_same] using hb
    · simp [G, upd_ne z] at hb
  · show upd (fun _ => none) l _ pen = none
    rw [upd_ne npl]
  · refine LamX.Tabs.ext ht fun b u q => ?_
    have n0 : b ≠ l0 := ne_of_none q e0
    have q1 : H1 b = some u := by rw [hH1, upd_ne n0]; exact q
    have n1 : b ≠ l := ne_of_none q1 e1
    have q2 : H2 b = some u := by rw [hH2, upd_ne n1]; exact q1
    rw [upd_ne (ne_of_none q2 e2)]; exact q2
  · intro q hq
    obtain ⟨ps, hP, _⟩ := ht q hq
    have n0 : q.1 ≠ l0 := ne_of_none hP e0
    have q1 : H1 q.1 = some (.tbl ps) := by rw [hH1, upd_ne n0]; exact hP
    show upd (fun _ => none) l _ q.1 = none
    rw [upd_ne (ne_of_none q1 e1)]
  · -- the slots
    have hlen : ((start N [V.ref a]).set 1 (some (V.ref pen))).length = (lawDs N.length).length := by
      simp [L2.start, lawDs]; omega
    have look : ∀ (i : Nat) s, (lawDs N.length)[i]? = some (some s) → i = 1 ∧ s = .d .pen := fun i s e => by
      match i with
      | 0 => cases e
      | 1 => exact ⟨rfl, (Option.some.inj (Option.some.inj e)).symm⟩
      | i + 2 =>
        have e : (List.replicate (N.length - 2) (none : Option Sl))[i]? = some (some s) := e
        rw [List.getElem?_replicate] at e
        split at e <;> cases e
    refine ⟨hlen, fun i x e => ?_, fun i xs e => ?_, fun i xs e => ?_, fun i c xs e => ?_, fun i j s t l e1 _ n1 => ?_⟩
    · obtain ⟨rfl, z⟩ := look i _ e
      cases z
      refine ⟨.ref pen, ?_, .pen⟩
      rw [List.getElem?_set_self (by simp [L2.start]; omega)]
    · obtain ⟨_, z⟩ := look i _ e; cases z
    · obtain ⟨_, z⟩ := look i _ e; cases z
    · obtain ⟨_, z⟩ := look i _ e; cases z
    · obtain ⟨_, z⟩ := look i _ e1; exact absurd z (n1 _)
  · rw [hbody]
    intro v G' H' _ _ _ r
    cases r
    exact hq H'
end ME

/-! What the top has written, asked by Booleans; the __init__ of an exception class. -/
namespace ME
open PySem PySem.Spec PyProof.Rows L2

/-- the object of an own class over ValueError -/
def oexB (K : PySem.W.Frag) (C : Addr) : Bool := match K.lookup C with
  | some ⟨.type "type", _, .cls cd, sl⟩ => (match cd.mro, sl.toList with
    | .ref C' :: bm, [_, _, _, _, some (.builtin n), _] => C' == C && n == "ValueError.__new__" && !cd.hasDel && cd.hasDict && PySem.HandSPX.refsVE bm
    | _, _ => false)
  | _ => false
theorem oexB_of {K : PySem.W.Frag} {C : Addr} (q : oexB K C = true) : ∃ nm qn N bs bm sn sub ab col dd k0 k1 k2 k3 k5, K.lookup C = some (excClassObj nm qn C N bs bm true sn sub ab col dd k0 k1 k2 k3 k5 "ValueError.__new__") ∧ PySem.HandSPX.refsVE bm = true := by
  unfold oexB at q
  split at q
  · rename_i dd cd sl ho
    split at q
    · rename_i C' bm k0 k1 k2 k3 n k5 hm hs
      simp only [Bool.and_eq_true, beq_iff_eq, Bool.not_eq_true'] at q
      obtain ⟨⟨⟨⟨rfl, rfl⟩, hdel⟩, hd⟩, ht⟩ := q
      obtain ⟨nm, bs, mro, ns, qn, hd', sn, sub, ab, col, del⟩ := cd
      dsimp only at hm hdel hd
      subst hm hdel hd
      have hsl : sl = #[k0, k1, k2, k3, some (.builtin "ValueError.__new__"), k5] := by
        obtain ⟨l⟩ := sl
        simp only at hs
        rw [hs]
      subst hsl
      exact ⟨nm, qn, ns, bs, bm, sn, sub, ab, col, dd, k0, k1, k2, k3, k5, ho, ht⟩
    · cases q
  · cases q
def eqB {α : Type} [BEq α] (a b : α) : Bool := a == b
/-- an exception class: what making and asking it take -/
def xcB (K : PySem.W.Frag) (C : Addr) : Bool :=
  oexB K C && (PySem.W.findIn K (.ref C) "__setattr__" == some (some (.builtin "object.__setattr__"))) && (PySem.W.subIn K (.ref C) (.type "BaseException") == some true) && (PySem.W.typeIn K (.ref C) == some (.type "type")) && PySem.W.keepIn K (.ref C)
    && (PySem.W.clsIn K C).isSome && (PySem.W.findIn K (.ref C) "__getattribute__" == some (some (.builtin "BaseException.__getattribute__"))) && (PySem.W.findIn K (.ref C) "__getattr__" == some none)
    && (PySem.W.findIn K (.ref C) "__class__" == some (some (.builtin "object.__class__"))) && (PySem.W.mroIn K C (.type "object") == some true)
/-- what is asked of the built-in parts -/
def bltB (K : PySem.W.Frag) : Bool := (PySem.W.specialIn K (.builtin "object.__class__") "__get__" == some (some (.builtin "getset_descriptor.__get__"))) && (PySem.W.takesIn K (.builtin "object.__class__") == some true)
theorem oex_of {K : PySem.W.Frag} {C : Addr} (h : xcB K C = true) : OexC K C := by
  unfold xcB at h
  simp only [Bool.and_eq_true, beq_iff_eq] at h
  exact ⟨oexB_of h.1.1.1.1.1.1.1.1.1, h.1.1.1.1.1.1.1.1.2, h.1.1.1.1.1.1.1.2, h.1.1.1.1.1.1.2, h.1.1.1.1.1.2⟩
theorem xok_of {K : PySem.W.Frag} {C : Addr} (h : xcB K C = true) (b : bltB K = true) : XOk K C := by
  unfold xcB at h
  unfold bltB at b
  simp only [Bool.and_eq_true, beq_iff_eq] at h b
  exact ⟨h.1.1.1.1.2, h.1.1.1.2, h.1.1.2, h.1.1.1.1.1.1.1.2, h.1.2, b.1, b.2, h.2⟩
/-- the table of isinstance -/
def isfB (K : PySem.W.Frag) (ca : Nat → Addr) (T : IsT) : Bool :=
  ((T.os ++ T.xs).all fun c => (T.os ++ T.xs).all fun c' => PySem.W.kitOne K (.ref (ca c)) (.ref (ca c')) == some (T.sub c c')) &&
  ((T.os ++ T.xs).all fun c => T.ts.all fun n => PySem.W.kitOne K (.ref (ca c)) (.type n) == some (T.subT c n)) &&
  (tyNames.all fun a => (T.os ++ T.xs).all fun c' => PySem.W.kitOne K (.type a) (.ref (ca c')) == some false) && T.xs.all fun c => xcB K (ca c)
theorem isf_of {S : Sg} {T : IsT} (h : isfB S.K S.ca T = true) (b : bltB S.K = true) (hos : ∀ c ∈ T.os, OCl S.K (S.ca c)) : IsF S T := by
  unfold isfB at h
  simp only [Bool.and_eq_true, List.all_eq_true, beq_iff_eq] at h
  obtain ⟨⟨⟨h1, h2⟩, h3⟩, h4⟩ := h
  have mem : ∀ c, c ∈ T.os ∨ c ∈ T.xs → c ∈ T.os ++ T.xs := fun c hc => List.mem_append.mpr hc
  exact ⟨fun c hc c' hc' => h1 c (mem c hc) c' (mem c' hc'), fun c hc n hn => h2 c (mem c hc) n hn, fun a ha c' hc' => h3 a ha c' (mem c' hc'), hos, fun c hc => xok_of (h4 c hc) b⟩

/-! ### the __init__ of an exception class: each parameter is stored -/
section
variable {P : Program} {w : World} {K : PySem.W.Frag} {mg : Str → Option Value} {base : Heap} {qual : Str} {st : Stmt} {f C : Addr} {fd : FuncData} {a b : Str}
theorem fn_okF {x : Str} {N ps : List Str} {k : Nat} {sp : Sp} (F : FunG K x qual st f fd) (Sc : FnScope N ps (defScope st))
    (len : ∀ vs H Q E, sp vs H Q E → vs.length = ps.length)
    (hb : ∀ (cdv : Value) (A : Around) (outer : List Env) (s : Shared) (H : Hp) (vs : List V) (Q : VK) (E : XK), Room k (A.deeper (envOfC qual (defScope st) s.heap.objs.size f cdv)) → sp vs H Q E →
      ∃ t, PSs (cxOf (L2.CX P w) P w K mg base N qual (defScope st) f cdv A outer s H E) (defBody st) t ∧ t { nx := fun _ H' => Q .non H', rt := Q } (start N vs) H) :
    FnOk P w K mg base (L2.CX P w) (k + 1) f fd ps sp := by
  refine ⟨len, fun A outer s H args us vs Q E hr e0 hbd r sp => ?_⟩
  obtain ⟨oc, od, dV, kV, doc, pm, an, cdv, ct, osl, rfl, lk, hcd⟩ := F.ex
  exact LamX.run_ofS lk hcd Sc hr e0 hbd r (len vs H Q E sp) fun hr' => hb cdv A outer s H vs Q E hr' sp
theorem xi_len {nms : List Str} : ∀ vs H Q E, spXI C nms vs H Q E → vs.length = (("self" : Str) :: nms).length := fun vs H Q E h => by
  obtain ⟨x, ws, rfl, hl, _⟩ := h
  simp [hl]
theorem vis_of {N ps : List Str} {sc : Scope} (S : FnScope N ps sc) {x : Str} (h : x ∈ ps) : Vis sc x := by
  rcases S.par x h with e | e
  · exact .inl e
  · exact .inr (.inl e)
theorem xi1 {p1 p2 p3 p4 : Pos} (F : FunG K "__init__" qual st f fd) (Sc : FnScope ["self", a] ["self", a] (defScope st)) (hb : defBody st = [.Assign [.Attribute (.Name "self" p1) a p2] (.Name a p3) p4])
    (T : OexC K C) (n1 : PySem.W.findIn K (.ref C) a = some none) (da : (a == ("__debug__" : Str)) = false) (dc : (a == ("__classdict__" : Str)) = false)
    (hs : ∀ env : Env, swapsWith (.Name a p3) (some (.Attribute (.Name "self" p1) a p2)) p4.line env = pure false) : FnOk P w K mg base (L2.CX P w) 1 f fd ["self", a] (spXI C [a]) := by
  refine fn_okF (k := 0) F Sc xi_len fun cdv A outer s H vs Q E hr h => ?_
  rw [hb]
  refine ⟨_, pss_one (ps_ost (pe_var (i := 0) rfl (vis_of Sc (by simp))) (pe_var (i := 1) rfl (vis_of Sc (by simp)) da dc) (hs _)), ?_⟩
  obtain ⟨x, ws, rfl, hl, hx, q⟩ := h
  match ws, hl with
  | [y], _ =>
    refine ⟨y, rfl, .ref x, rfl, x, C, rfl, T, n1, .inl ⟨hx, fun d hd hne => ?_⟩⟩
    refine q d _ hd hne upd_same (by rw [upd_ne hne, upd_same]; rfl) fun b hb1 hb2 => ?_
    rw [upd_ne hb1, upd_ne hb2]
theorem xi2 {p1 p2 p3 p4 p5 p6 p7 p8 : Pos} (F : FunG K "__init__" qual st f fd) (Sc : FnScope ["self", a, b] ["self", a, b] (defScope st)) (hb : defBody st = [.Assign [.Attribute (.Name "self" p1) a p2] (.Name a p3) p4, .Assign [.Attribute (.Name "self" p5) b p6] (.Name b p7) p8])
    (T : OexC K C) (n1 : PySem.W.findIn K (.ref C) a = some none) (n2 : PySem.W.findIn K (.ref C) b = some none) (da : (a == ("__debug__" : Str)) = false) (dc : (a == ("__classdict__" : Str)) = false) (da2 : (b == ("__debug__" : Str)) = false) (dc2 : (b == ("__classdict__" : Str)) = false)
    (hs : ∀ env : Env, swapsWith (.Name a p3) (some (.Attribute (.Name "self" p1) a p2)) p4.line env = pure false) (hs2 : ∀ env : Env, swapsWith (.Name b p7) (some (.Attribute (.Name "self" p5) b p6)) p8.line env = pure false) : FnOk P w K mg base (L2.CX P w) 1 f fd ["self", a, b] (spXI C [a, b]) := by
  refine fn_okF (k := 0) F Sc xi_len fun cdv A outer s H vs Q E hr h => ?_
  rw [hb]
  refine ⟨_, pss_cons (ps_ost (pe_var (i := 0) rfl (vis_of Sc (by simp))) (pe_var (i := 1) rfl (vis_of Sc (by simp)) da dc) (hs _)) (pss_one (ps_ost (pe_var (i := 0) rfl (vis_of Sc (by simp))) (pe_var (i := 2) rfl (vis_of Sc (by simp)) da2 dc2) (hs2 _))), ?_⟩
  obtain ⟨x, ws, rfl, hl, hx, q⟩ := h
  match ws, hl with
  | [y, z], _ =>
    refine ⟨y, rfl, .ref x, rfl, x, C, rfl, T, n1, .inl ⟨hx, fun d hd hne => ?_⟩⟩
    refine ⟨z, rfl, .ref x, rfl, x, C, rfl, T, n2, .inr ⟨d, [(a, y)], upd_same, by rw [upd_ne hne, upd_same], show 1 ≤ 900 by decide, ?_⟩⟩
    refine q d _ hd hne (by rw [upd_ne (Ne.symm hne), upd_same]) (by rw [upd_same]; rfl) fun b hb1 hb2 => ?_
    rw [upd_ne hb2, upd_ne hb1, upd_ne hb2]
end
end ME

/-! Rules in the shape that the printed derivations use: every look at the text is one Boolean equation. -/
namespace ME
open PySem PySem.Spec PyProof.Rows L2

theorem FnG.mono {P : Program} {w : World} {K : PySem.W.Frag} {mg : Str → Option Value} {base : Heap} {j k : Nat} {f : Addr} {fd : FuncData} {ps : List Str} {sp : Sp} (F : FnG P w K mg base j f fd ps sp) (h : j ≤ k) : FnG P w K mg base k f fd ps sp :=
  ⟨F.len, fun A outer s H args us vs Q E hg hr => F.run A outer s H args us vs Q E hg (hr.mono h)⟩
/-! ### looks at the text -/
def visB (sc : Scope) (x : Str) : Bool := match sc.names.lookup x with
  | some .local => true
  | some .cell => true
  | some .free => true
  | _ => false
def locB (sc : Scope) (x : Str) : Bool := match sc.names.lookup x with
  | some .local => true
  | some .cell => true
  | _ => false
def lclB (sc : Scope) (x : Str) : Bool := match sc.names.lookup x with
  | some .local => true
  | _ => false
def gloB (sc : Scope) (x : Str) : Bool := match sc.names.lookup x with
  | some .globalImplicit => true
  | _ => false
theorem visB_of {sc : Scope} {x : Str} (h : visB sc x = true) : Vis sc x := by
  unfold visB at h
  split at h
  · rename_i e; exact .inl e
  · rename_i e; exact .inr (.inl e)
  · rename_i e; exact .inr (.inr e)
  · cases h
theorem locB_of {sc : Scope} {x : Str} (h : locB sc x = true) : Loc sc x := by
  unfold locB at h
  split at h
  · rename_i e; exact .inl e
  · rename_i e; exact .inr e
  · cases h
theorem lclB_of {sc : Scope} {x : Str} (h : lclB sc x = true) : sc.names.lookup x = some .local := by
  unfold lclB at h
  split at h
  · assumption
  · cases h
theorem gloB_of {sc : Scope} {x : Str} (h : gloB sc x = true) : sc.names.lookup x = some .globalImplicit := by
  unfold gloB at h
  split at h
  · assumption
  · cases h
def ixB (N : List Str) (i : Nat) (x : Str) : Bool := N[i]? == some x
def nmB (x : Str) : Bool := !(x == ("__debug__" : Str)) && !(x == ("__classdict__" : Str)) && !(x == ("__name__" : Str))
/-- a name that is read -/
def varB (N : List Str) (sc : Scope) (i : Nat) (x : Str) : Bool := ixB N i x && visB sc x && nmB x
/-- a name that is stored -/
def stoB (N : List Str) (sc : Scope) (i : Nat) (x : Str) : Bool := ixB N i x && locB sc x
def nodB : List Str → Bool
  | [] => true
  | x :: r => !r.contains x && nodB r
theorem nodB_of : ∀ {l : List Str}, nodB l = true → l.Nodup
  | [], _ => List.nodup_nil
  | x :: r, h => by
    simp only [nodB, Bool.and_eq_true, Bool.not_eq_true', List.contains_eq_mem, decide_eq_false_iff_not] at h
    exact List.nodup_cons.mpr ⟨h.1, nodB_of h.2⟩
def scpB (N ps : List Str) (sc : Scope) : Bool := (match sc.kind with | .function => true | _ => false) && !sc.isCoroutine && !sc.isGenerator && nodB N && (N.take ps.length == ps) && ps.all (fun x => locB sc x) && sc.names.all fun y => match y.2 with | .free => false | _ => true
def blkB (N : List Str) (sc scope : Scope) (own : List (Str × Nat)) : Bool :=
  (match scope.kind with | .function => true | _ => false) && (scope.names.all fun y => match scope.names.lookup y.1, y.2 with | some .local, .local => true | some .cell, .cell => true | some .free, .free => true | some .globalImplicit, .globalImplicit => true | _, _ => false) &&
  (own.all fun p => N[p.2]? == some p.1) && (scope.names.all fun y => match y.2 with | .free => (match sc.names.lookup y.1 with | some .cell => true | some .free => true | _ => false) | _ => true) &&
  scope.names.all fun y => match y.2 with | .local => own.any (fun p => p.1 == y.1) || !N.contains y.1 | .cell => own.any (fun p => p.1 == y.1) || !N.contains y.1 | _ => true
theorem ixB_of {N : List Str} {i : Nat} {x : Str} (h : ixB N i x = true) : N[i]? = some x := beq_iff_eq.mp h
theorem nmB_of {x : Str} (h : nmB x = true) : (x == ("__debug__" : Str)) = false ∧ (x == ("__classdict__" : Str)) = false ∧ x ≠ "__name__" := by
  unfold nmB at h
  simp only [Bool.and_eq_true, Bool.not_eq_true'] at h
  exact ⟨h.1.1, h.1.2, fun z => by rw [z] at h; simp at h⟩
theorem scpB_of {N ps : List Str} {sc : Scope} (h : scpB N ps sc = true) : FnScope N ps sc := by
  unfold scpB at h
  simp only [Bool.and_eq_true, Bool.not_eq_true', beq_iff_eq, List.all_eq_true] at h
  obtain ⟨⟨⟨⟨⟨⟨h1, h2⟩, h3⟩, h4⟩, h5⟩, h6⟩, h7⟩ := h
  refine ⟨?_, h2, h3, nodB_of h4, h5, fun x hx => locB_of (h6 x hx), ?_⟩
  · split at h1
    · assumption
    · cases h1
  · intro y hy z
    have := h7 y hy
    rw [z] at this
    cases this
theorem blkB_of {N : List Str} {sc scope : Scope} {own : List (Str × Nat)} (h : blkB N sc scope own = true) : BlkOk N sc scope own := by
  unfold blkB at h
  simp only [Bool.and_eq_true, List.all_eq_true, beq_iff_eq] at h
  obtain ⟨⟨⟨⟨h1, h2⟩, h3⟩, h4⟩, h5⟩ := h
  refine ⟨?_, fun y hy => ?_, fun p hp => h3 p hp, fun y hy z => ?_, fun y hy z => ?_⟩
  · split at h1
    · assumption
    · cases h1
  · have := h2 y hy
    split at this
    · rename_i e1 e2; rw [e1, e2]
    · rename_i e1 e2; rw [e1, e2]
    · rename_i e1 e2; rw [e1, e2]
    · rename_i e1 e2; rw [e1, e2]
    · cases this
  · have := h4 y hy
    rw [z] at this
    dsimp only at this
    split at this
    · rename_i e; exact .inl e
    · rename_i e; exact .inr e
    · cases this
  · have := h5 y hy
    have key : (own.any (fun p => p.1 == y.1) || !N.contains y.1) = true := by
      rcases z with z | z
      · rw [z] at this; exact this
      · rw [z] at this; exact this
    rcases Bool.or_eq_true _ _ ▸ key with k | k
    · left
      obtain ⟨p, hp, e⟩ := List.any_eq_true.mp k
      exact List.mem_map.mpr ⟨p, hp, beq_iff_eq.mp e⟩
    · right
      simpa using k
/-! ### where a body stands -/
structure Bx (X : Cx) (m : Am) (j : Nat) : Prop where
  tk : Takes X m.W
  hq : X.A.guards = some []
  hr : Room j X.A
  calm : X.calm = true
  hK : X.K = m.S.K
  hS : ∃ o, X.base.get? sysModules = some o
  pf : Passes (L2.CX X.prog X.w) X (fun _ _ _ => False)
theorem Bx.def {P : Program} {w : World} {K : PySem.W.Frag} {mg : Str → Option Value} {base : Heap} {N : List Str} {qual : Str} {sc : Scope} {f : Addr} {cdv : Value} {A : Around} {outer : List Env} {s : Shared} {H : Hp} {E : XK} {S : Sg} {pen : Addr} {G0 B : Hp} {j : Nat}
    (hg : A.guards = some []) (hr : Room j (A.deeper (envOfC qual sc s.heap.objs.size f cdv))) (hK : K = S.K) (hS : ∃ o, base.get? sysModules = some o) :
    Bx (cxOf (L2.CX P w) P w K mg base N qual sc f cdv A outer s H E) ⟨S, pen, G0, B, fun c d _ H' => E c d H'⟩ j := by
  have tk : Takes (cxOf (L2.CX P w) P w K mg base N qual sc f cdv A outer s H E) (fun c d _ H' => E c d H') := takes_of (E := E) rfl rfl rfl rfl
  exact ⟨tk, hg, hr, rfl, hK, hS, fun pins σ H1 s1 e s2 I c => by obtain ⟨_, _, _, _, _, _, _, _, _, _, _, _, z⟩ := c; exact z.elim⟩
theorem Bx.blk {X : Cx} {m : Am} {j : Nat} {s : Shared} {H : Hp} {scope : Scope} {cenv : Env} {fp : List Addr} (b : Bx X m j) : Bx (X.blk s H scope cenv fp) m.nox j :=
  ⟨fun u s' x => by obtain ⟨_, _, _, _, _, _, _, _, _, _, _, _, _, _, _, _, z⟩ := x; exact z.elim, b.hq, b.hr, b.calm, b.hK, b.hS, fun pins σ H1 s1 e s2 I c => by obtain ⟨_, _, _, _, _, _, _, _, _, _, _, _, z⟩ := c; exact z.elim⟩
/-! ### the packed facts -/
/-- the def x, called with n values and the keywords ks -/
def FnT (P : Program) (w : World) (K : PySem.W.Frag) (mg : Str → Option Value) (base : Heap) (S : Sg) (k : Nat) (x : Str) (n : Nat) (ks : List Str) (dd : List D) (l : List Src) (mf : List D → M D) : Prop :=
  ∃ f fd ps dvs, FnG P w K mg base k f fd ps (spM S mf) ∧ mg x = some (.ref f) ∧ PySem.W.keepIn K (.ref f) = true ∧ Bd K fd ps n ks dvs l ∧ ∀ G pen, Reps S G pen dvs dd
/-- the exception class number c, called so -/
def XT (P : Program) (w : World) (K : PySem.W.Frag) (mg : Str → Option Value) (base : Heap) (S : Sg) (c : Nat) (x : Str) (n : Nat) (ks : List Str) (dd : List D) (l : List Src) : Prop :=
  ∃ fI fd dvs, XCl P w K mg base 1 x (S.ca c) (S.nm c) fI fd ∧ (S.nm c).Nodup ∧ Bd K fd ("self" :: S.nm c) (n + 1) ks dvs (.p 0 :: l.map Src.up) ∧ (∀ G pen, Reps S G pen dvs dd) ∧ n ≤ 1000
section
variable {X : Cx} {m : Am} {j k n : Nat} {e a b : Expr} {es : List Expr} {kws : List Keyword} {ks : List Str} {ra rk : AX} {pos p : Pos} {x : Str} {ea eb : EX} {dd : List D} {l : List Src}
theorem gl_of (h : gloB X.env.scope x = true) : Gl X x := gloB_of h
theorem me_v {i : Nat} (h : varB X.N X.env.scope i x = true) : PE X (.Name x pos) (tE m (mVar i)) := by
  unfold varB at h
  simp only [Bool.and_eq_true] at h
  have q := nmB_of h.2
  exact me_var (ixB_of h.1.1) (visB_of h.1.2) q.1 q.2.1
theorem me_call {mf : List D → M D} (B : Bx X m j) (F : FnT X.prog X.w X.K X.mg X.base m.S k x n ks dd l mf) (hk : Nat.ble k j = true) (hg : gloB X.env.scope x = true) (hx : nmB x = true) (ha : PAK X es kws n ks (tAK m n ks.length ra rk)) :
    PE X (.Call (.Name x p) es kws pos) (tE m (mCallK mf n ks.length dd l ra rk)) := by
  obtain ⟨f, fd, ps, dvs, F, hm, hkp, hb, hdd⟩ := F
  exact me_fn (F.mono (Nat.le_of_ble_eq_true hk)) B.tk B.hq B.hr (gl_of hg) hm hkp hb hdd ha (nmB_of hx).1
theorem me_mk {c : Nat} (B : Bx X m j) (T : XT X.prog X.w X.K X.mg X.base m.S c x n ks dd l) (hj : Nat.ble 2 j = true) (hg : gloB X.env.scope x = true) (hx : nmB x = true) (ha : PAK X es kws n ks (tAK m n ks.length ra rk)) :
    PE X (.Call (.Name x p) es kws pos) (tE m (mExc c n ks.length dd l (m.S.nm c).length ra rk)) := by
  obtain ⟨fI, fd, dvs, T, nd, hb, hdd, hn⟩ := T
  exact me_exc T nd (B.hr.mono (Nat.le_of_ble_eq_true hj)) B.pf hb (gl_of hg) hn hdd ha (nmB_of hx).1
theorem ms_thr {c : Nat} {pos' : Pos} (B : Bx X m j) (T : XT X.prog X.w X.K X.mg X.base m.S c x n ks dd l) (hj : Nat.ble 2 j = true) (hg : gloB X.env.scope x = true) (hx : nmB x = true) (ha : PAK X es kws n ks (tAK m n ks.length ra rk)) :
    PS X (.Raise (some (.Call (.Name x p) es kws pos)) none pos') (tS m (sRaise c n ks.length dd l (m.S.nm c).length ra rk)) := by
  obtain ⟨fI, fd, dvs, T, nd, hb, hdd, hn⟩ := T
  exact ms_raise T nd B.calm B.tk (B.hr.mono (Nat.le_of_ble_eq_true hj)) B.pf hb (gl_of hg) hn hdd ha (nmB_of hx).1
/-- an exception class without own __init__ -/
def X0 (K : PySem.W.Frag) (mg : Str → Option Value) (S : Sg) (c : Nat) (x : Str) : Prop := mg x = some (.ref (S.ca c)) ∧ PySem.W.excIn K (S.ca c) [.type "ValueError", .type "Exception", .type "BaseException", .type "object"] "ValueError.__new__" = true ∧ xcB K (S.ca c) = true
theorem me_mk0 {c : Nat} (B : Bx X m j) (T : X0 X.K X.mg m.S c x) (hg : gloB X.env.scope x = true) (hx : nmB x = true) : PE X (.Call (.Name x p) [] [] pos) (tE m (mC (.exc c []))) := by
  have ox := oex_of T.2.2
  exact me_exc0 PySem.F.excBase_ValueError T.2.1 T.1 ox.kC (raises_own ox.exC ox.tyC) (gl_of hg) (nmB_of hx).1
theorem me_cls {c : Nat} (hm : X.mg x = some (.ref (m.S.ca c))) (hg : gloB X.env.scope x = true) (hx : nmB x = true) : PE X (.Name x pos) (tE m (mC (.cls c))) := me_gcls (gl_of hg) hm (nmB_of hx).1
theorem me_tyn {t : String} (hm : X.mg x = none) (hg : gloB X.env.scope x = true) (hv : bootBuiltins x = some (.type t)) (hx : nmB x = true) : PE X (.Name x pos) (tE m (mC (.ty t))) := me_ty (gl_of hg) hm hv (nmB_of hx).2.2 (nmB_of hx).1
/-! operators -/
theorem me_add (B : Bx X m j) (ha : PE X a (tE m ea)) (hb : PE X b (tE m eb)) : PE X (.BinOp a .Add b pos) (tE m (mBin dAdd ea eb)) := me_op op_addD (r_add B.hK) ha hb
theorem me_sub (ha : PE X a (tE m ea)) (hb : PE X b (tE m eb)) : PE X (.BinOp a .Sub b pos) (tE m (mBin dSub ea eb)) := me_op op_sub r_sub ha hb
theorem me_mul (ha : PE X a (tE m ea)) (hb : PE X b (tE m eb)) : PE X (.BinOp a .Mult b pos) (tE m (mBin dMulT ea eb)) := me_op (OpR.or op_mul op_mulT) r_mulT ha hb
theorem me_pow (ha : PE X a (tE m ea)) (hb : PE X b (tE m eb)) : PE X (.BinOp a .Pow b pos) (tE m (mBin dPow ea eb)) := me_op op_pow r_pow ha hb
theorem me_mod (ha : PE X a (tE m ea)) (hb : PE X b (tE m eb)) : PE X (.BinOp a .Mod b pos) (tE m (mBin dMod ea eb)) := me_op op_mod r_mod ha hb
theorem me_fdv (ha : PE X a (tE m ea)) (hb : PE X b (tE m eb)) : PE X (.BinOp a .FloorDiv b pos) (tE m (mBin dDivW ea eb)) := me_op op_fdivW r_divW ha hb
theorem me_neg (ha : PE X a (tE m ea)) : PE X (.UnaryOp .USub a pos) (tE m (mUn dNeg ea)) := me_un un_neg r_neg ha
/-! comparisons, as a value and as a test -/
structure CmpT (X : Cx) (m : Am) (op : CmpOp) (o : D → D → M D) : Prop where
  ex : ∃ r, OpR X (compareOp op) r ∧ R2Ok m r o
theorem c_lt : CmpT X m .Lt (dCmpI fun i j => decide (i < j)) := ⟨_, op_lt, r_cmpI⟩
theorem c_le : CmpT X m .LtE (dCmpI fun i j => decide (i ≤ j)) := ⟨_, op_le, r_cmpI⟩
theorem c_gt : CmpT X m .Gt (dCmpI fun i j => decide (j < i)) := ⟨_, op_gt, r_cmpI⟩
theorem c_ge : CmpT X m .GtE (dCmpI fun i j => decide (j ≤ i)) := ⟨_, op_ge, r_cmpI⟩
theorem c_eq (B : Bx X m j) : CmpT X m .Eq (dEq false) := ⟨_, OpR.or op_eq (op_eqM B.hK B.hS B.hr.units), r_eq⟩
theorem c_ne (B : Bx X m j) : CmpT X m .NotEq (dEq true) := ⟨_, OpR.or op_ne (op_neM B.hK B.hS B.hr.units), r_ne⟩
theorem c_in (B : Bx X m j) : CmpT X m .In (dIn false) := ⟨_, op_in_seq, r_in B.hK⟩
theorem c_nin (B : Bx X m j) : CmpT X m .NotIn (dIn true) := ⟨_, op_notIn_seq, r_in B.hK⟩
theorem me_cm {op : CmpOp} {o : D → D → M D} (C : CmpT X m op o) (ha : PE X a (tE m ea)) (hb : PE X b (tE m eb)) (hm : behindInMarks op b = false := by rfl) : PE X (.Compare a [op] [b] pos) (tE m (mBin o ea eb)) := by
  obtain ⟨r, h1, h2⟩ := C.ex
  exact me_cmp h1 h2 ha hb hm
theorem mt_cm {op : CmpOp} {o : D → D → M D} (C : CmpT X m op o) (ha : PE X a (tE m ea)) (hb : PE X b (tE m eb)) (hm : behindInMarks op b = false := by rfl) : PT X (.Compare a [op] [b] pos) (tT m (mTest (mBin o ea eb))) := by
  obtain ⟨r, h1, h2⟩ := C.ex
  exact mt_cmp h1 h2 ha hb hm
/-! built-in calls -/
/-- the built-in of that name, as a function on data -/
structure BltT (X : Cx) (m : Am) (x : Str) (f : List D → M D) : Prop where
  ex : (∃ id r, bootBuiltins x = some (.builtin id) ∧ CallR X (.builtin id) r ∧ RAOk m r f) ∨ ∃ id r, bootBuiltins x = some (.type id) ∧ CallR X (.type id) r ∧ RAOk m r f
theorem b_len (B : Bx X m j) : BltT X m "len" dLen := ⟨.inl ⟨_, _, rfl, call_lenM, r_len B.hK⟩⟩
theorem b_abs : BltT X m "abs" dAbs := ⟨.inl ⟨_, _, rfl, call_abs, r_abs⟩⟩
theorem b_int : BltT X m "int" dInt1 := ⟨.inr ⟨_, _, rfl, call_int1, r_int1⟩⟩
theorem b_repr (B : Bx X m j) : BltT X m "repr" dRepr := ⟨.inl ⟨_, _, rfl, call_reprM B.hK B.hS B.hq B.hr.units, r_repr⟩⟩
theorem b_isi {T : IsT} (B : Bx X m j) (F : IsF m.S T) : BltT X m "isinstance" (dIsi T) := ⟨.inl ⟨_, _, rfl, CallR.or call_isi call_isE, r_isi B.hK F⟩⟩
theorem me_b {f : List D → M D} (T : BltT X m x f) (hm : X.mg x = none) (hg : gloB X.env.scope x = true) (hx : nmB x = true) (ha : PA X (e :: es) (tAs m ra))
    (he : starEach (e :: es) X.env = (false, eval e X.env) :: starEach es X.env := by rfl) (hpl : (backTo pos (starEach es X.env)).any (·.1) = false := by rfl) : PE X (.Call (.Name x p) (e :: es) [] pos) (tE m (mCB f ra)) := by
  rcases T.ex with ⟨id, r, h1, h2, h3⟩ | ⟨id, r, h1, h2, h3⟩
  · exact me_cb h2 h3 (gl_of hg) hm h1 ha (nmB_of hx).2.2 (nmB_of hx).1 he hpl
  · exact me_cty h2 h3 (gl_of hg) hm h1 ha (nmB_of hx).2.2 (nmB_of hx).1 he hpl
/-! fields -/
def fldB (K : PySem.W.Frag) (S : Sg) (f : Str) (xs : List (Nat × Nat)) : Bool := xs.all fun q => xfB K (S.ca q.1) && (PySem.W.findIn K (.ref (S.ca q.1)) f == some none) && ((S.nm q.1)[q.2]? == some f) && nodB (S.nm q.1)
def clsB (K : PySem.W.Frag) (C : Addr) : Bool := PySem.W.plainGet K C Str.empty && PySem.W.hasDictIn K C && PySem.W.plainOver K C && (PySem.W.findIn K (.ref C) "__setattr__" == some (some (.builtin "object.__setattr__")))
theorem clsB_of {K : PySem.W.Frag} {C : Addr} (h : clsB K C = true) : Cls K C := by
  unfold clsB at h
  simp only [Bool.and_eq_true, beq_iff_eq] at h
  exact ⟨h.1.1.1, h.1.1.2, h.1.2, h.2⟩
def fldO (K : PySem.W.Frag) (S : Sg) (f : Str) (os : List (Nat × Nat)) : Bool := os.all fun q => clsB K (S.ca q.1) && (PySem.W.findIn K (.ref (S.ca q.1)) f == some none) && ((S.nm q.1)[q.2]? == some f) && nodB (S.nm q.1)
theorem me_f {f : Str} {os xs : List (Nat × Nat)} (B : Bx X m j) (h1 : fldO m.S.K m.S f os = true) (h2 : fldB m.S.K m.S f xs = true) (ha : PE X a (tE m ea)) (hb : attributeBase a f X.env (eval a X.env) = eval a X.env := by rfl) : PE X (.Attribute a f pos) (tE m (mUn (dFld os xs) ea)) := by
  refine me_at (AtR.or at_fld at_xfld) (r_fld B.hK (fun q hq => ?_) fun q hq => ?_) ha hb
  · unfold fldO at h1
    have := List.all_eq_true.mp h1 q hq
    simp only [Bool.and_eq_true, beq_iff_eq] at this
    exact ⟨clsB_of this.1.1.1, this.1.1.2, this.1.2, nodB_of this.2⟩
  · unfold fldB at h2
    have := List.all_eq_true.mp h2 q hq
    simp only [Bool.and_eq_true, beq_iff_eq] at this
    exact ⟨xfB_ok this.1.1.1, this.1.1.2, this.1.2, nodB_of this.2⟩
/-! statements -/
theorem ms_st {i : Nat} {p' : Pos} (hN : nodB X.N = true) (h : stoB X.N X.env.scope i x = true) (he : PE X e (tE m ea)) (hs : swapsWith e (some (.Name x p')) pos.line X.env = pure false := by rfl) (hf : X.fn x = true := by rfl) : PS X (.Assign [.Name x p'] e pos) (tS m (sSet i ea)) := by
  unfold stoB at h
  simp only [Bool.and_eq_true] at h
  exact ms_set (nodB_of hN) (ixB_of h.1) (locB_of h.2) he hs (.inl hf)
theorem mg_nm {i : Nat} {js : List Nat} (hN : nodB X.N = true) (h : stoB X.N X.env.scope i x = true) (hi : js.contains i = true) (hf : (X.fn x || lclB X.env.scope x) = true) : PG X (.Name x pos) (tG m js (gN i)) := by
  unfold stoB at h
  simp only [Bool.and_eq_true] at h
  refine mg_name (nodB_of hN) (ixB_of h.1) (locB_of h.2) (by simpa using hi) ?_
  rcases Bool.or_eq_true _ _ ▸ hf with z | z
  · exact .inl z
  · exact .inr (lclB_of z)
end
end ME

/-! Facts of the top, packed. -/
namespace ME
open PySem PySem.Spec PyProof.Rows L2

/-- a def without defaults -/
def FunN (K : PySem.W.Frag) (x qual : Str) (st : Stmt) (f : Addr) (fd : FuncData) : Prop :=
  ∃ (oc : Value) (od : Option Addr) (kV doc pm : Value) (an : Option Addr) (cdv ct : Value) (osl : Array (Option Value)),
    fd = PySem.W.fnOf x qual (defArgs st) (defBody st) (defScope st) .none kV doc pm an cdv ct ∧ K.lookup f = some ⟨oc, od, .func fd, osl⟩ ∧ PySem.W.codeIn K cdv qual = true
theorem FunN.g {K : PySem.W.Frag} {x qual : Str} {st : Stmt} {f : Addr} {fd : FuncData} (F : FunN K x qual st f fd) : FunG K x qual st f fd := by
  obtain ⟨oc, od, kV, doc, pm, an, cdv, ct, osl, h1, h2, h3⟩ := F
  exact ⟨oc, od, .none, kV, doc, pm, an, cdv, ct, osl, h1, h2, h3⟩
theorem bdN {K : PySem.W.Frag} {x qual : Str} {st : Stmt} {f : Addr} {fd : FuncData} {ps ks : List Str} {n : Nat} {l : List Src} (F : FunN K x qual st f fd)
    (h : ∀ (s : Shared) (kV doc pm : Value) (an : Option Addr) (cdv ct : Value) (us ws : List Value), us.length = n → ws.length = ks.length → BindsTo s (PySem.W.fnOf x qual (defArgs st) (defBody st) (defScope st) .none kV doc pm an cdv ct) ⟨us, ks.zip ws⟩ (ps.zip (pick us [] ws l))) : Bd K fd ps n ks [] l := by
  obtain ⟨oc, od, kV, doc, pm, an, cdv, ct, osl, rfl, h2, h3⟩ := F
  exact ⟨[], .nil, fun s us ws _ l1 l2 => h s kV doc pm an cdv ct us ws l1 l2⟩
def DefAt (K : PySem.W.Frag) (mg : Str → Option Value) (x : Str) (st : Stmt) : Prop := ∃ f fd, FunN K x x st f fd ∧ mg x = some (.ref f) ∧ PySem.W.keepIn K (.ref f) = true
theorem defAt_mk {K : PySem.W.Frag} {h : Heap} {mg : Str → Option Value} {x : Str} {st : Stmt} {f : Addr} {oc kV doc pm cdv ct : Value} {od an : Option Addr} {osl : Array (Option Value)} (X : K.In h) (G : h.Ns mainGlobals mg) (a : PySem.W.nsIn K mainGlobals x = some (some (.ref f)))
    (l : K.lookup f = some ⟨oc, od, .func (PySem.W.fnOf x x (defArgs st) (defBody st) (defScope st) .none kV doc pm an cdv ct), osl⟩) (c : PySem.W.codeIn K cdv x = true) (k : PySem.W.keepIn K (.ref f) = true) : DefAt K mg x st :=
  ⟨f, _, ⟨oc, od, kV, doc, pm, an, cdv, ct, osl, rfl, l, c⟩, PySem.W.mg_of X G a, k⟩
/-- the def x computes mf -/
def FnD (P : Program) (w : World) (K : PySem.W.Frag) (mg : Str → Option Value) (base : Heap) (S : Sg) (k : Nat) (x : Str) (st : Stmt) (ps : List Str) (mf : List D → M D) : Prop :=
  ∃ f fd, FnG P w K mg base k f fd ps (spM S mf) ∧ FunN K x x st f fd ∧ mg x = some (.ref f) ∧ PySem.W.keepIn K (.ref f) = true
theorem FnD.t {P : Program} {w : World} {K : PySem.W.Frag} {mg : Str → Option Value} {base : Heap} {S : Sg} {k : Nat} {x : Str} {st : Stmt} {ps ks : List Str} {mf : List D → M D} {n : Nat} {l : List Src} (F : FnD P w K mg base S k x st ps mf)
    (h : ∀ (s : Shared) (kV doc pm : Value) (an : Option Addr) (cdv ct : Value) (us ws : List Value), us.length = n → ws.length = ks.length → BindsTo s (PySem.W.fnOf x x (defArgs st) (defBody st) (defScope st) .none kV doc pm an cdv ct) ⟨us, ks.zip ws⟩ (ps.zip (pick us [] ws l))) :
    FnT P w K mg base S k x n ks [] l mf := by
  obtain ⟨f, fd, h1, h2, h3, h4⟩ := F
  exact ⟨f, fd, ps, [], h1, h3, h4, bdN h2 h, fun _ _ => .nil⟩
/-- an exception class's own __init__ -/
def XinAt (K : PySem.W.Frag) (C : Addr) (qual : Str) (st : Stmt) : Prop := ∃ f fd, FunN K "__init__" qual st f fd ∧ PySem.W.findIn K (.ref C) "__init__" = some (some (.ref f)) ∧ PySem.W.typeIn K (.ref f) = some (.type "function")
theorem xinAt_mk {K : PySem.W.Frag} {C f : Addr} {qual : Str} {st : Stmt} {oc kV doc pm cdv ct : Value} {od an : Option Addr} {osl : Array (Option Value)} (a : PySem.W.findIn K (.ref C) "__init__" = some (some (.ref f)))
    (l : K.lookup f = some ⟨oc, od, .func (PySem.W.fnOf "__init__" qual (defArgs st) (defBody st) (defScope st) .none kV doc pm an cdv ct), osl⟩) (c : PySem.W.codeIn K cdv qual = true) (k : PySem.W.typeIn K (.ref f) = some (.type "function")) : XinAt K C qual st :=
  ⟨f, _, ⟨oc, od, kV, doc, pm, an, cdv, ct, osl, rfl, l, c⟩, a, k⟩
def noAt (K : PySem.W.Frag) (C : Addr) (fs : List Str) : Bool := fs.all fun f => PySem.W.findIn K (.ref C) f == some none
section
variable {P : Program} {w : World} {K : PySem.W.Frag} {mg : Str → Option Value} {base : Heap} {S : Sg} {c : Nat} {x qual a b : Str} {st : Stmt} {n : Nat} {ks : List Str} {l : List Src}
theorem xt1 {p1 p2 p3 p4 : Pos} (I : XinAt K (S.ca c) qual st) (hx : xcB K (S.ca c) = true) (hn : noAt K (S.ca c) [a] = true) (hm : mg x = some (.ref (S.ca c))) (hnm : S.nm c = [a])
    (sc : scpB ["self", a] ["self", a] (defScope st) = true) (hb : defBody st = [.Assign [.Attribute (.Name "self" p1) a p2] (.Name a p3) p4]) (ha : nmB a = true)
    (hs : ∀ env : Env, swapsWith (.Name a p3) (some (.Attribute (.Name "self" p1) a p2)) p4.line env = pure false)
    (hbd : ∀ (s : Shared) (kV doc pm : Value) (an : Option Addr) (cdv ct : Value) (us ws : List Value), us.length = n + 1 → ws.length = ks.length → BindsTo s (PySem.W.fnOf "__init__" qual (defArgs st) (defBody st) (defScope st) .none kV doc pm an cdv ct) ⟨us, ks.zip ws⟩ (([("self" : Str), a] : List Str).zip (pick us [] ws (.p 0 :: l.map Src.up))))
    (hn1 : Nat.ble n 1000 = true) : XT P w K mg base S c x n ks [] l := by
  obtain ⟨fI, fd, F, h1, h2⟩ := I
  have T := oex_of hx
  unfold noAt at hn
  simp only [List.all_cons, List.all_nil, Bool.and_true, beq_iff_eq] at hn
  refine ⟨fI, fd, [], ⟨T, h1, h2, ?_, hm⟩, ?_, ?_, fun _ _ => .nil, Nat.le_of_ble_eq_true hn1⟩
  · rw [hnm]; exact xi1 F.g (scpB_of sc) hb T hn (nmB_of ha).1 (nmB_of ha).2.1 hs
  · rw [hnm]; simp
  · rw [hnm]; exact bdN F hbd
theorem xt2 {p1 p2 p3 p4 p5 p6 p7 p8 : Pos} (I : XinAt K (S.ca c) qual st) (hx : xcB K (S.ca c) = true) (hn : noAt K (S.ca c) [a, b] = true) (hm : mg x = some (.ref (S.ca c))) (hnm : S.nm c = [a, b]) (hne : nodB [a, b] = true)
    (sc : scpB ["self", a, b] ["self", a, b] (defScope st) = true) (hb : defBody st = [.Assign [.Attribute (.Name "self" p1) a p2] (.Name a p3) p4, .Assign [.Attribute (.Name "self" p5) b p6] (.Name b p7) p8]) (ha : nmB a = true) (hb' : nmB b = true)
    (hs : ∀ env : Env, swapsWith (.Name a p3) (some (.Attribute (.Name "self" p1) a p2)) p4.line env = pure false) (hs2 : ∀ env : Env, swapsWith (.Name b p7) (some (.Attribute (.Name "self" p5) b p6)) p8.line env = pure false)
    (hbd : ∀ (s : Shared) (kV doc pm : Value) (an : Option Addr) (cdv ct : Value) (us ws : List Value), us.length = n + 1 → ws.length = ks.length → BindsTo s (PySem.W.fnOf "__init__" qual (defArgs st) (defBody st) (defScope st) .none kV doc pm an cdv ct) ⟨us, ks.zip ws⟩ (([("self" : Str), a, b] : List Str).zip (pick us [] ws (.p 0 :: l.map Src.up))))
    (hn1 : Nat.ble n 1000 = true) : XT P w K mg base S c x n ks [] l := by
  obtain ⟨fI, fd, F, h1, h2⟩ := I
  have T := oex_of hx
  unfold noAt at hn
  simp only [List.all_cons, List.all_nil, Bool.and_true, Bool.and_eq_true, beq_iff_eq] at hn
  refine ⟨fI, fd, [], ⟨T, h1, h2, ?_, hm⟩, ?_, ?_, fun _ _ => .nil, Nat.le_of_ble_eq_true hn1⟩
  · rw [hnm]; exact xi2 F.g (scpB_of sc) hb T hn.1 hn.2 (nmB_of ha).1 (nmB_of ha).2.1 (nmB_of hb').1 (nmB_of hb').2.1 hs hs2
  · rw [hnm]; exact nodB_of hne
  · rw [hnm]; exact bdN F hbd
end
theorem mgn_of {K : PySem.W.Frag} {h : Heap} {mg : Str → Option Value} (X : K.In h) (G : h.Ns mainGlobals mg) {bs : List Str} (e : (bs.all fun x => PySem.W.nsIn K mainGlobals x == some none) = true) : ∀ x, bs.contains x = true → mg x = none := fun x hx => by
  have := List.all_eq_true.mp e x (by simpa using hx)
  exact PySem.W.mg_none_of X G (beq_iff_eq.mp this)
theorem mgc_of {K : PySem.W.Frag} {h : Heap} {mg : Str → Option Value} (X : K.In h) (G : h.Ns mainGlobals mg) {bs : List (Str × Addr)} (e : (bs.all fun x => PySem.W.nsIn K mainGlobals x.1 == some (some (.ref x.2))) = true) : ∀ (i : Nat) (x : Str) (a : Addr), bs[i]? = some (x, a) → mg x = some (.ref a) := fun i x a hx => by
  have := List.all_eq_true.mp e (x, a) (List.mem_of_getElem? hx)
  exact PySem.W.mg_of X G (beq_iff_eq.mp this)
theorem cm_of {K : PySem.W.Frag} {h : Heap} {mg : Str → Option Value} (X : K.In h) (G : h.Ns mainGlobals mg) {ns : List Str} {cs : List Addr} (e : ((ns.zip cs).all fun q => PySem.W.nsIn K mainGlobals q.1 == some (some (.ref q.2))) = true) (hl : ns.length = cs.length) :
    ∀ (c : Nat) (x : Str), ixB ns c x = true → mg x = some (.ref (cs.getD c 0)) := fun c x hx => by
  have h1 := ixB_of hx
  have hc : c < cs.length := by rw [← hl]; exact (List.getElem?_eq_some_iff.mp h1).1
  have h2 : cs[c]? = some cs[c] := List.getElem?_eq_getElem hc
  have hz : (ns.zip cs)[c]? = some (x, cs[c]) := by rw [List.getElem?_zip_eq_some]; exact ⟨h1, h2⟩
  have := List.all_eq_true.mp e _ (List.mem_of_getElem? hz)
  rw [PySem.W.mg_of X G (beq_iff_eq.mp this)]
  simp [List.getD, h2]
theorem all_in {l : List Nat} {f : Nat → Bool} (h : l.all f = true) : ∀ c, l.contains c = true → f c = true := fun c hc => List.all_eq_true.mp h c (by simpa using hc)
/-! lengths that a target asks -/
def GLen (g : GXs) (n : Nat) : Prop := ∀ ds δ δ', g ds δ = some δ' → ds.length = n
theorem gl0 : GLen gs0 0 := fun ds δ δ' h => by
  cases ds with
  | nil => rfl
  | cons _ _ => cases h
theorem gl1 {g : GX} {r : GXs} {n : Nat} (h : GLen r n) : GLen (gs1 g r) (n + 1) := fun ds δ δ' e => by
  cases ds with
  | nil => cases e
  | cons d l =>
    dsimp only [gs1] at e
    cases q : g d δ with
    | none => rw [q] at e; cases e
    | some δ1 => rw [q] at e; rw [List.length_cons, h l δ1 δ' e]
end ME

/-! The law's draw: its mirror computes drawF. -/
namespace ME
open PySem

def xI : EX → EX := fun e => mCB dInt1 (mCons e mNil)
def xP (k : Int) : EX := mBin dIxP (mVar 0) (mC (.int k))
def xL : EX := mCB dLen (mCons (xP 0) mNil)
def xA : EX := mCB dAbs (mCons (mVar 4) mNil)
def dS1 : SX := sIf (mTest (mBin (dCmpI fun i j => decide (j < i)) (xP 2) (mC (.int 0)))) (sSeq (sSet 2 (mBin dMod (xI (xP 2)) (mVar 1))) (sSeq (sPen 0 2 (mBin dDivW (xI (xP 2)) (mVar 1))) (sRet (mVar 2)))) sNx
def dS2 : SX := sSet 3 (xP 1)
def dS3 : SX := sPen 0 1 (mBin dAdd (mVar 3) (mC (.int 1)))
def dS4 (C : DrC) : SX := sSet 4 (mBin dAdd (mBin dMulT (mC (.int C.a1)) (mVar 3)) (mC (.int C.a0)))
def dS5 : SX := sIf (mTest (mBin (dEq true) (xP 0) (mLst mNil))) (sSet 4 (mBin dIx (xP 0) (mBin dMod (xI (mVar 3)) xL))) sNx
def dT6 : TX := mAndT (mTest (mBin (dCmpI fun i j => decide (i < j)) (mVar 3) xL)) (mTest (mBin (dCmpI fun i j => decide (j ≤ i)) xA (mBin dPow (mC (.int 10)) (mC (.int 18)))))
def dS6 : SX := sSeq (sSet 5 (mBin dAdd (mBin dMulT (mC (.int 2)) (mBin dSub xA (mBin dPow (mC (.int 10)) (mC (.int 18))))) (xI (mBin (dCmpI fun i j => decide (i < j)) (mVar 4) (mC (.int 0)))))) (sSeq (sPen 0 2 (mBin dDivW (xI (mVar 5)) (mVar 1))) (sRet (mBin dMod (xI (mVar 5)) (mVar 1))))
def dS7 (C : DrC) : SX := sSet 6 (mBin dMod (xI (mBin dPow (mBin dAdd (mBin dAdd (mBin dMod (xI (mVar 4)) (mC (.int C.m1))) (mBin dMulT (mC (.int C.b1)) (mVar 3))) (mC (.int C.b0))) (mC (.int 5)))) (mC (.int C.m2)))
def dS8 (C : DrC) : SX := sSet 6 (mBin dMod (xI (mBin dPow (mBin dAdd (mBin dAdd (mBin dMulT (mVar 6) (mBin dAdd (mBin dMulT (mC (.int 2)) (mVar 3)) (mC (.int C.t0)))) (mBin dMulT (mBin dMulT (mC (.int C.q1)) (mVar 3)) (mVar 3))) (mC (.int C.q0))) (mC (.int 3)))) (mC (.int C.m3)))
def dS9 : SX := sRet (mBin dMod (xI (mBin dDivW (mVar 6) (mC (.int 32)))) (mVar 1))
def bDraw (C : DrC) : SX := sSeq dS1 (sSeq dS2 (sSeq dS3 (sSeq (dS4 C) (sSeq dS5 (sSeq (sIf dT6 dS6 sNx) (sSeq (dS7 C) (sSeq (dS8 C) dS9)))))))
/-! steps -/
theorem seq_nx {s t : SX} {δ δ' : DS} {p p' : Pn} (h : s δ p = some (.nx δ', p')) : sSeq s t δ p = t δ' p' := by unfold sSeq; rw [h]
theorem set_run {i : Nat} {e : EX} {δ : DS} {p p' : Pn} {d : D} (h : e δ p = some (.ok d, p')) : sSet i e δ p = some (.nx (δ.set i (some (.d d))), p') := by unfold sSet sBnd; rw [h]
theorem ret_run {e : EX} {δ : DS} {p p' : Pn} {d : D} (h : e δ p = some (.ok d, p')) : sRet e δ p = some (.rt d, p') := by unfold sRet sBnd; rw [h]
theorem if_run {c : TX} {s t : SX} {δ : DS} {p p' : Pn} {b : Bool} (h : c δ p = some (.ok b, p')) : sIf c s t δ p = if b = true then s δ p' else t δ p' := by
  unfold sIf sBnd
  rw [h]
  cases b <;> rfl
theorem bin_run {o : D → D → M D} {a b : EX} {δ : DS} {p p1 p2 : Pn} {x y : D} (h1 : a δ p = some (.ok x, p1)) (h2 : b δ p1 = some (.ok y, p2)) : mBin o a b δ p = o x y p2 := by
  unfold mBin M.bnd
  rw [h1]
  dsimp only
  rw [h2]
theorem bn {o : D → D → M D} {a b : EX} {δ : DS} {p p1 p2 p3 : Pn} {x y z : D} (h1 : a δ p = some (.ok x, p1)) (h2 : b δ p1 = some (.ok y, p2)) (h3 : o x y p2 = some (.ok z, p3)) : mBin o a b δ p = some (.ok z, p3) := (bin_run h1 h2).trans h3
theorem test_run {a : EX} {δ : DS} {p p1 : Pn} {b : Bool} (h1 : a δ p = some (.ok (.bl b), p1)) : mTest a δ p = some (.ok b, p1) := by
  unfold mTest M.bnd
  rw [h1]
  rfl
theorem andT_run {a b : TX} {δ : DS} {p p1 : Pn} {x : Bool} {r : Option (Out Bool × Pn)} (h1 : a δ p = some (.ok x, p1)) (h2 : (if x = true then b δ p1 else some (.ok false, p1)) = r) : mAndT a b δ p = r := by
  unfold mAndT M.bnd
  rw [h1]
  rw [← h2]
  cases x <;> rfl
theorem pen_run {i : Nat} {k : Int} {e : EX} {δ : DS} {p p1 : Pn} {z : Int} {r : Option (Fl × Pn)} (h1 : e δ p = some (.ok (.int z), p1)) (h2 : δ[i]? = some (some (.d .pen))) (h3 : (if k = 1 then some (Fl.nx δ, ({ p1 with no := z } : Pn)) else if k = 2 then some (.nx δ, { p1 with rest := z }) else none) = r) : sPen i k e δ p = r := by
  unfold sPen sBnd
  rw [h1]
  dsimp only
  rw [h2]
  exact h3
theorem at_int {l : List Int} {i : Int} {c : Int} (h0 : 0 ≤ i) (h1 : i < (l.length : Int)) (h : l[i.toNat]? = some c) : L2.atI (l.map D.int) i = some (.int c) := by
  have e : L2.ixN (l.map D.int).length i = some i.toNat := by
    unfold L2.ixN
    rw [List.length_map]
    simp [h0, h1]
    try omega
  unfold L2.atI
  rw [e]
  simp [h]
theorem var_run {i : Nat} {δ : DS} {p : Pn} {d : D} (h : δ[i]? = some (some (.d d))) : mVar i δ p = some (.ok d, p) := by unfold mVar; rw [h]
theorem int_run {e : EX} {δ : DS} {p p' : Pn} {i : Int} (h : e δ p = some (.ok (.int i), p')) : xI e δ p = some (.ok (.int i), p') := by
  unfold xI mCB mCons mNil M.bnd
  rw [h]
  rfl
theorem toPy_ints : ∀ l : List Int, toPyL (l.map D.int) = some (l.map PyData.int)
  | [] => rfl
  | i :: l => by
    simp only [List.map_cons, toPyL, toPy, toPy_ints l]
theorem lay_ints : ∀ l : List Int, PyData.canLayAll0 (l.map PyData.int) = true
  | [] => rfl
  | i :: l => by simp only [List.map_cons, PyData.canLayAll0, PyData.canLay0, lay_ints l, Bool.and_self]
theorem depth_ints : ∀ l : List Int, PyData.depthAll (l.map PyData.int) = 0
  | [] => by simp only [List.map_nil, PyData.depthAll]
  | i :: l => by simp only [List.map_cons, PyData.depthAll, PyData.depth, depth_ints l, Nat.max_self]
theorem ne_ints (l : List Int) : dEq true (.lst (l.map D.int)) (.lst []) = M.ret (.bl (decide (l ≠ []))) := by
  have h1 : toPy (.lst (l.map D.int)) = some (.list (l.map PyData.int)) := by simp only [toPy, toPy_ints, Option.map_some]
  have h2 : toPy (.lst []) = some (.list []) := by simp only [toPy, toPyL, Option.map_some]
  have h3 : SeqAt.shaped (.list (l.map PyData.int)) = true := by
    simp only [SeqAt.shaped, PyData.canLay0, lay_ints, PyData.depth, depth_ints, Bool.true_and]
    rfl
  have h4 : SeqAt.shaped (.list []) = true := rfl
  unfold dEq
  simp only [h1, h2, h3, h4, Bool.and_self, if_true]
  cases l with
  | nil => rfl
  | cons i l => simp [PyData.eqv, PyData.eqvAll]
theorem mulT_ok (i j : Int) (h : i.natAbs < 2 ^ 64 ∨ j.natAbs < 2 ^ 64) : dMulT (.int i) (.int j) = M.ret (.int (i * j)) := by
  show (if (decide (i.natAbs < 2 ^ 64) || decide (j.natAbs < 2 ^ 64)) = true then M.ret (D.int (i * j)) else M.stuck) = _
  rw [if_pos]
  rcases h with h | h
  · rw [decide_eq_true h, Bool.true_or]
  · rw [decide_eq_true h, Bool.or_true]
theorem powD_ok (i j : Int) (h0 : 0 ≤ j) (h1 : j ≤ 1000000) (h : i.natAbs < 2 ^ 64) : dPow (.int i) (.int j) = M.ret (.int (i ^ j.toNat)) := by
  show (if (decide (0 ≤ j) && decide (j ≤ 1000000) && decide (i.natAbs < 2 ^ 64)) = true then M.ret (D.int (i ^ j.toNat)) else M.stuck) = _
  rw [if_pos (by rw [decide_eq_true h0, decide_eq_true h1, decide_eq_true h]; rfl)]
theorem modD_ok (i j : Int) (h : 0 < j) : dMod (.int i) (.int j) = M.ret (.int (i % j)) := by
  show (if decide (0 < j) = true then M.ret (D.int (i % j)) else M.stuck) = _
  rw [if_pos (decide_eq_true h)]
theorem divW_ok (i j : Int) (h : 0 < j) (hl : j.natAbs.log2 < 9000) : dDivW (.int i) (.int j) = M.ret (.int (i / j)) := by
  show (if (decide (0 < j) && decide (j.natAbs.log2 < 9000)) = true then M.ret (D.int (i / j)) else M.stuck) = _
  rw [if_pos (by rw [decide_eq_true h, decide_eq_true hl]; rfl)]
theorem le_mul {a b A B : Int} (h1 : 0 ≤ a) (h2 : a ≤ A) (h3 : 0 ≤ b) (h4 : b ≤ B) : 0 ≤ a * b ∧ a * b ≤ A * B :=
  ⟨Int.mul_nonneg h1 h3, Int.mul_le_mul h2 h4 h3 (Int.le_trans h1 h2)⟩
theorem draw_run {C : DrC} (hC : C.ok = true) {many : Int} {p p' : Pn} {r : Int} (h : drawF C many p = some (r, p')) : fnM 2 7 (bDraw C) [.pen, .int many] p = some (.ok (.int r), p') := by
  unfold drawF at h
  split at h
  · rename_i hz
    simp only [Bool.and_eq_true, decide_eq_true_eq] at hz
    obtain ⟨⟨hm, hl⟩, ⟨hn0, hn1, hlen⟩⟩ := hz
    have hC' := of_decide_eq_true hC
    show outOf (bDraw C [some (.d .pen), some (.d (.int many)), none, none, none, none, none] p) = _
    split at h
    · rename_i hrest
      cases h
      have hr' : decide (0 < p.rest) = true := decide_eq_true hrest
      simp [bDraw, dS1, xP, xI, sSeq, sIf, sBnd, mTest, mBin, mVar, mC, dIxP, M.bnd, M.ret, M.opt, dCmpI, dB, sSet, mCB, mCons, mNil, dInt1, dMod, hm, hl, sPen, dDivW, sRet, outOf, hrest]
    · rename_i hrest
      obtain ⟨m1a, m1b, m2a, m2b, m3a, m3b, a1a, a1b, a0a, a0b, b1a, b1b, b0a, b0b, t0a, t0b, q1a, q1b, q0a, q0b⟩ := hC'
      have main : ∀ cell : Int, cellOf C p = some cell →
          (if p.no < (p.cells.length : Int) ∧ absI cell ≥ 10 ^ (18 : Int).toNat then
            some ((2 * (absI cell - 10 ^ (18 : Int).toNat) + (if cell < 0 then 1 else 0)) % many, ({ p with no := p.no + 1, rest := (2 * (absI cell - 10 ^ (18 : Int).toNat) + (if cell < 0 then 1 else 0)) / many } : Pn))
          else some (mix2 C p.no (mix1 C p.no cell) / 32 % many, ({ p with no := p.no + 1 } : Pn))) = some (r, p') →
          outOf (bDraw C [some (.d .pen), some (.d (.int many)), none, none, none, none, none] p) = some (.ok (.int r), p') := by
        intro cell hc h
        have e1 := mulT_ok C.a1 p.no (.inl (by omega))
        have x1 := le_mul b1a (Int.le_of_lt b1b) hn0 hn1
        have x0a := Int.emod_nonneg cell (b := C.m1) (by omega)
        have x0b := Int.emod_lt_of_pos cell m1a
        have e2 := mulT_ok C.b1 p.no (.inl (by omega))
        have e3 := powD_ok (cell % C.m1 + C.b1 * p.no + C.b0) 5 (by decide) (by decide) (by omega)
        obtain ⟨x, hx⟩ : ∃ x, mix1 C p.no cell = x := ⟨_, rfl⟩
        have hxa : 0 ≤ x := by rw [← hx]; exact Int.emod_nonneg _ (by omega)
        have hxb : x < C.m2 := by rw [← hx]; exact Int.emod_lt_of_pos _ m2a
        have hx' : (cell % C.m1 + C.b1 * p.no + C.b0) ^ (5 : Int).toNat % C.m2 = x := hx
        have e4 := mulT_ok 2 p.no (.inl (by decide))
        have e5 := mulT_ok x (2 * p.no + C.t0) (.inl (by omega))
        have e6 := mulT_ok C.q1 p.no (.inl (by omega))
        have e7 := mulT_ok (C.q1 * p.no) p.no (.inr (by omega))
        have y1 := le_mul (B := 2 ^ 22) hxa (Int.le_of_lt hxb) (show 0 ≤ 2 * p.no + C.t0 by omega) (by omega)
        have y1' : C.m2 * 2 ^ 22 ≤ 2 ^ 54 := by omega
        have y2 := le_mul (a := C.q1) (A := 2 ^ 20) q1a (Int.le_of_lt q1b) hn0 hn1
        have y3 := le_mul y2.1 y2.2 hn0 hn1
        have e8 := powD_ok (x * (2 * p.no + C.t0) + C.q1 * p.no * p.no + C.q0) 3 (by decide) (by decide) (by omega)
        have e9 := modD_ok ((cell % C.m1 + C.b1 * p.no + C.b0) ^ (5 : Int).toNat) C.m2 m2a
        rw [hx'] at e9
        have e10 := modD_ok ((x * (2 * p.no + C.t0) + C.q1 * p.no * p.no + C.q0) ^ (3 : Int).toNat) C.m3 m3a
        have e11 := modD_ok cell C.m1 m1a
        have e12 := powD_ok 10 18 (by decide) (by decide) (by decide)
        have e13 := divW_ok (mix2 C p.no x) 32 (by decide) (by decide)
        have e14 := fun z => modD_ok z many hm
        have e15 := fun z => divW_ok z many hm hl
        have e16 := mulT_ok 2 ((if cell < 0 then -cell else cell) - 10 ^ (18 : Int).toNat) (.inl (by decide))
        have hnr : decide (0 < p.rest) = false := decide_eq_false hrest
        have hcell : (if p.cells = [] then some (C.a1 * p.no + C.a0) else p.cells[(p.no % (p.cells.length : Int)).toNat]?) = some cell := hc
        have f1 : dEq true (.lst (p.cells.map D.int)) (.lst []) = M.ret (.bl (decide (p.cells ≠ []))) := ne_ints p.cells
        have r1 : dS1 [some (.d .pen), some (.d (.int many)), none, none, none, none, none] p = some (.nx [some (.d .pen), some (.d (.int many)), none, none, none, none, none], p) := by
          rw [dS1, if_run (b := false) (p' := p)]
          · rfl
          · show some (Out.ok (decide (0 < p.rest)), p) = _
            rw [hnr]
        have r4 : dS4 C [some (.d .pen), some (.d (.int many)), none, some (.d (.int p.no)), none, none, none] { p with no := p.no + 1 } = some (.nx [some (.d .pen), some (.d (.int many)), none, some (.d (.int p.no)), some (.d (.int (C.a1 * p.no + C.a0))), none, none], { p with no := p.no + 1 }) :=
          set_run (bn (bn rfl rfl (congrFun e1 _)) rfl rfl)
        have r5 : dS5 [some (.d .pen), some (.d (.int many)), none, some (.d (.int p.no)), some (.d (.int (C.a1 * p.no + C.a0))), none, none] { p with no := p.no + 1 } = some (.nx [some (.d .pen), some (.d (.int many)), none, some (.d (.int p.no)), some (.d (.int cell)), none, none], { p with no := p.no + 1 }) := by
          rw [dS5, if_run (test_run (bn rfl rfl (congrFun f1 _)))]
          by_cases hcs : p.cells = []
          · rw [if_pos hcs] at hcell
            cases hcell
            rw [if_neg (by simp [hcs])]
            rfl
          · rw [if_neg hcs] at hcell
            have hlen0 : 0 < (p.cells.length : Int) := by
              have : p.cells.length ≠ 0 := fun z => hcs (List.length_eq_zero_iff.mp z)
              omega
            have ii0 := Int.emod_nonneg p.no (b := (p.cells.length : Int)) (by omega)
            have ii1 := Int.emod_lt_of_pos p.no hlen0
            rw [if_pos (by simp [hcs])]
            have eL : xL [some (.d .pen), some (.d (.int many)), none, some (.d (.int p.no)), some (.d (.int (C.a1 * p.no + C.a0))), none, none] { p with no := p.no + 1 } = some (.ok (.int (p.cells.length : Int)), { p with no := p.no + 1 }) := by
              show some (Out.ok (D.int (((p.cells.map D.int).length : Nat) : Int)), _) = _
              rw [List.length_map]
            refine set_run (bn rfl (bn (int_run rfl) eL (congrFun (modD_ok _ _ hlen0) _)) ?_)
            show M.opt (L2.atI (p.cells.map D.int) (p.no % (p.cells.length : Int))) _ = _
            rw [at_int ii0 ii1 hcell]
            rfl
        have eL : xL [some (.d .pen), some (.d (.int many)), none, some (.d (.int p.no)), some (.d (.int cell)), none, none] { p with no := p.no + 1 } = some (.ok (.int (p.cells.length : Int)), { p with no := p.no + 1 }) := by
          show some (Out.ok (D.int (((p.cells.map D.int).length : Nat) : Int)), _) = _
          rw [List.length_map]
        have eA : xA [some (.d .pen), some (.d (.int many)), none, some (.d (.int p.no)), some (.d (.int cell)), none, none] { p with no := p.no + 1 } = some (.ok (.int (absI cell)), { p with no := p.no + 1 }) := rfl
        have r6 : dT6 [some (.d .pen), some (.d (.int many)), none, some (.d (.int p.no)), some (.d (.int cell)), none, none] { p with no := p.no + 1 } = some (.ok (decide (p.no < (p.cells.length : Int) ∧ absI cell ≥ 10 ^ (18 : Int).toNat)), { p with no := p.no + 1 }) := by
          refine andT_run (test_run (bn rfl eL rfl)) ?_
          by_cases hlt : p.no < (p.cells.length : Int)
          · rw [if_pos (decide_eq_true hlt)]
            rw [test_run (bn eA (bn rfl rfl (congrFun e12 _)) rfl)]
            simp [hlt]
          · rw [if_neg (by simp [hlt])]
            simp [hlt]
        show outOf (sSeq dS1 _ _ _) = _
        rw [seq_nx r1, seq_nx (s := dS2) (set_run rfl), seq_nx (s := dS3) (pen_run rfl rfl rfl)]
        rw [show ([some (Sl.d D.pen), some (Sl.d (D.int many)), none, none, none, none, none] : DS).set 3 (some (.d (.int p.no))) = [some (.d .pen), some (.d (.int many)), none, some (.d (.int p.no)), none, none, none] from rfl]
        rw [seq_nx r4, seq_nx r5]
        by_cases hb : p.no < (p.cells.length : Int) ∧ absI cell ≥ 10 ^ (18 : Int).toNat
        · rw [if_pos hb] at h
          cases h
          have : sSeq (sIf dT6 dS6 sNx) (sSeq (dS7 C) (sSeq (dS8 C) dS9)) [some (.d .pen), some (.d (.int many)), none, some (.d (.int p.no)), some (.d (.int cell)), none, none] { p with no := p.no + 1 } = some (.rt (.int ((2 * (absI cell - 10 ^ (18 : Int).toNat) + (if cell < 0 then 1 else 0)) % many)), { p with no := p.no + 1, rest := (2 * (absI cell - 10 ^ (18 : Int).toNat) + (if cell < 0 then 1 else 0)) / many }) := by
            unfold sSeq
            rw [if_run r6, decide_eq_true hb, if_pos rfl]
            have g1 : mBin dAdd (mBin dMulT (mC (.int 2)) (mBin dSub xA (mBin dPow (mC (.int 10)) (mC (.int 18))))) (xI (mBin (dCmpI fun i j => decide (i < j)) (mVar 4) (mC (.int 0)))) [some (.d .pen), some (.d (.int many)), none, some (.d (.int p.no)), some (.d (.int cell)), none, none] { p with no := p.no + 1 } = some (.ok (.int (2 * (absI cell - 10 ^ (18 : Int).toNat) + (if cell < 0 then 1 else 0))), { p with no := p.no + 1 }) := by
              refine bn (bn rfl (bn eA (bn rfl rfl (congrFun e12 _)) rfl) (congrFun e16 _)) (y := .int (if cell < 0 then 1 else 0)) (p2 := { p with no := p.no + 1 }) ?_ rfl
              show some (Out.ok (D.int (if decide (cell < 0) = true then 1 else 0)), _) = _
              by_cases hz : cell < 0 <;> simp [hz]
            unfold dS6
            rw [seq_nx (set_run g1)]
            rw [seq_nx (pen_run (bn (int_run rfl) rfl (congrFun (e15 _) _)) rfl rfl)]
            rw [ret_run (bn (int_run rfl) rfl (congrFun (e14 _) _))]
          rw [this]
          rfl
        · rw [if_neg hb] at h
          cases h
          rw [seq_nx (s := sIf dT6 dS6 sNx) (δ' := [some (.d .pen), some (.d (.int many)), none, some (.d (.int p.no)), some (.d (.int cell)), none, none]) (p' := { p with no := p.no + 1 }) (by rw [if_run r6, decide_eq_false hb]; rfl)]
          rw [seq_nx (s := dS7 C) (set_run (bn (int_run (bn (bn (bn (bn (int_run rfl) rfl (congrFun e11 _)) (bn rfl rfl (congrFun e2 _)) rfl) rfl rfl) rfl (congrFun e3 _))) rfl (congrFun e9 _)))]
          rw [seq_nx (s := dS8 C) (set_run (bn (int_run (bn (bn (bn (bn rfl (bn (bn rfl rfl (congrFun e4 _)) rfl rfl) (congrFun e5 _)) (bn (bn rfl rfl (congrFun e6 _)) rfl (congrFun e7 _)) rfl) rfl rfl) rfl (congrFun e8 _))) rfl (congrFun e10 _)))]
          rw [hx]
          rw [dS9, ret_run (bn (int_run (bn rfl rfl (congrFun e13 _))) rfl (congrFun (e14 _) _))]
          rfl
      cases hc : cellOf C p with
      | none => rw [hc] at h; cases h
      | some cell => rw [hc] at h; exact main cell hc h
  · cases h
end ME

/-! Mirrors run: one lemma for each construct. -/
namespace ME
open PySem
section
variable {δ δ' δ1 δ2 : DS} {p p1 p2 p3 p' : Pn}
theorem cons_run {a : EX} {r : AX} {x : D} {xs : List D} (h1 : a δ p = some (.ok x, p1)) (h2 : r δ p1 = some (.ok xs, p2)) : mCons a r δ p = some (.ok (x :: xs), p2) := by
  unfold mCons M.bnd
  rw [h1]
  dsimp only
  rw [h2]
  rfl
theorem nil_run : mNil δ p = some (.ok [], p) := rfl
theorem cb_run {f : List D → M D} {ra : AX} {xs : List D} {r : Option (Out D × Pn)} (h1 : ra δ p = some (.ok xs, p1)) (h2 : f xs p1 = r) : mCB f ra δ p = r := by
  unfold mCB M.bnd
  rw [h1]
  exact h2
theorem un_run {o : D → M D} {a : EX} {x : D} {r : Option (Out D × Pn)} (h1 : a δ p = some (.ok x, p1)) (h2 : o x p1 = r) : mUn o a δ p = r := by
  unfold mUn M.bnd
  rw [h1]
  exact h2
theorem callK_run {f : List D → M D} {n k : Nat} {dd : List D} {l : List Src} {ra rk : AX} {xs ys : List D} {r : Option (Out D × Pn)} (h1 : ra δ p = some (.ok xs, p1)) (h2 : rk δ p1 = some (.ok ys, p2)) (h3 : xs.length = n ∧ ys.length = k) (h4 : f (pick xs dd ys l) p2 = r) : mCallK f n k dd l ra rk δ p = r := by
  unfold mCallK M.bnd
  rw [h1]
  dsimp only
  rw [h2]
  dsimp only
  rw [if_pos h3]
  exact h4
theorem fn_run {np n : Nat} {s : SX} {ds : List D} {r : Option (Fl × Pn)} (hl : ds.length = np) (h : s (dsOf n ds) p = r) : fnM np n s ds p = outOf r := by
  unfold fnM
  rw [if_pos hl, h]
theorem fn_ret {np n : Nat} {s : SX} {ds : List D} {d : D} (hl : ds.length = np) (h : s (dsOf n ds) p = some (.rt d, p')) : fnM np n s ds p = some (.ok d, p') := fn_run hl h
theorem lst_run {ra : AX} {xs : List D} (h1 : ra δ p = some (.ok xs, p1)) (hz : szOk xs.length = true) : mLst ra δ p = some (.ok (.lst xs), p1) := by
  unfold mLst M.bnd
  rw [h1]
  dsimp only
  rw [if_pos hz]
  rfl
theorem tup_run {ra : AX} {xs : List D} (h1 : ra δ p = some (.ok xs, p1)) (hz : szOk xs.length = true) : mTup ra δ p = some (.ok (.tup xs), p1) := by
  unfold mTup M.bnd
  rw [h1]
  dsimp only
  rw [if_pos hz]
  rfl
theorem tru_run {a : EX} {x : D} {b : Bool} (h1 : a δ p = some (.ok x, p1)) (h2 : dTru x = some b) : mTru a δ p = some (.ok b, p1) := by
  unfold mTru M.bnd
  rw [h1]
  dsimp only
  rw [h2]
  rfl
theorem notT_run {a : TX} {b : Bool} (h1 : a δ p = some (.ok b, p1)) : mNotT a δ p = some (.ok (!b), p1) := by
  unfold mNotT M.bnd
  rw [h1]
  rfl
theorem orT_run {a b : TX} {x : Bool} {r : Option (Out Bool × Pn)} (h1 : a δ p = some (.ok x, p1)) (h2 : (if x = true then some (.ok true, p1) else b δ p1) = r) : mOrT a b δ p = r := by
  unfold mOrT M.bnd
  rw [h1]
  rw [← h2]
  cases x <;> rfl
theorem orT_ff {a b : TX} (h1 : a δ p = some (.ok false, p1)) (h2 : b δ p1 = some (.ok false, p2)) : mOrT a b δ p = some (.ok false, p2) := orT_run h1 h2
theorem iLst_run {e : EX} {l : List D} (h1 : e δ p = some (.ok (.lst l), p1)) : iLst e δ p = some (.ok l, p1) := by
  unfold iLst M.bnd
  rw [h1]
  rfl
theorem for_run {f : DS → M (List D)} {g : GX} {s : SX} {ds : List D} {r : Option (Fl × Pn)} (h1 : f δ p = some (.ok ds, p1)) (h2 : forGo g s ds δ p1 = r) : sFor f g s δ p = r := by
  unfold sFor sBnd
  rw [h1]
  exact h2
theorem for_nil {g : GX} {s : SX} : forGo g s [] δ p = some (.nx δ, p) := rfl
theorem for_step {g : GX} {s : SX} {d : D} {ds : List D} {r : Option (Fl × Pn)} (hg : g d δ = some δ1) (hs : s δ1 p = some (.nx δ2, p2)) (h : forGo g s ds δ2 p2 = r) : forGo g s (d :: ds) δ p = r := by
  unfold forGo
  rw [hg]
  dsimp only
  rw [hs]
  exact h
theorem newL_run {i : Nat} {ra : AX} {ds : List D} (h : ra δ p = some (.ok ds, p1)) (hz : szOk ds.length = true) : sNewL i ra δ p = some (.nx (δ.set i (some (.ml ds))), p1) := by
  unfold sNewL sBnd
  rw [h]
  dsimp only
  rw [if_pos hz]
theorem app_run {i : Nat} {e : EX} {xs : List D} {d : D} (h0 : δ[i]? = some (some (.ml xs))) (h : e δ p = some (.ok d, p1)) (hz : decide (xs.length < 16777216) = true) : sApp i e δ p = some (.nx (δ.set i (some (.ml (xs ++ [d])))), p1) := by
  unfold sApp
  rw [h0]
  dsimp only [sBnd]
  rw [h]
  dsimp only
  rw [if_pos hz]
theorem frz_run {i : Nat} {s : SX} {xs : List D} {r : Option (Fl × Pn)} (h0 : δ[i]? = some (some (.ml xs))) (h : s (δ.set i (some (.d (.lst xs)))) p = r) : sFrz i s δ p = r := by
  unfold sFrz
  rw [h0]
  exact h
theorem par2_run {i j : Nat} {ra : AX} {a b : D} (h : ra δ p = some (.ok [a, b], p1)) : sPar2 i j ra δ p = some (.nx ((δ.set i (some (.d a))).set j (some (.d b))), p1) := by
  unfold sPar2 sBnd
  rw [h]
theorem seq_run {s t : SX} {r : Option (Fl × Pn)} (h1 : s δ p = some (.nx δ', p')) (h2 : t δ' p' = r) : sSeq s t δ p = r := (seq_nx h1).trans h2
theorem if_no {c : TX} {s t : SX} {r : Option (Fl × Pn)} (h1 : c δ p = some (.ok false, p1)) (h2 : t δ p1 = r) : sIf c s t δ p = r := by
  rw [if_run h1]
  exact h2
theorem if_yes {c : TX} {s t : SX} {r : Option (Fl × Pn)} (h1 : c δ p = some (.ok true, p1)) (h2 : s δ p1 = r) : sIf c s t δ p = r := by
  rw [if_run h1]
  exact h2
/-- a comprehension whose test is never met -/
theorem comp_none {f : DS → M (List D)} {g : GX} {t : TX} {e : EX} {vs : List Nat} {ds : List D} (h1 : f δ p = some (.ok ds, p1)) (h2 : ∀ d ∈ ds, ∃ δ1, g d (wipeD δ vs) = some δ1 ∧ t δ1 p1 = some (.ok false, p1)) : mComp f g t e vs δ p = some (.ok (.lst []), p1) := by
  unfold mComp M.bnd
  rw [h1]
  dsimp only
  clear h1
  induction ds with
  | nil => rfl
  | cons d r ih =>
    obtain ⟨δ1, hg, ht⟩ := h2 d List.mem_cons_self
    unfold compGo
    rw [hg]
    dsimp only [M.bnd, M.calm]
    rw [ht]
    dsimp only
    exact ih fun d hd => h2 d (List.mem_cons_of_mem _ hd)
theorem eq_str (s : Str) : dEq false (.str s) (.str s) p = some (.ok (.bl true), p) := by
  unfold dEq
  simp [M.ret]
theorem ne_str (s : Str) : dEq true (.str s) (.str s) p = some (.ok (.bl false), p) := by
  unfold dEq
  simp [M.ret]
end
/-! ### data that can be shown -/
def Gd (n : Nat) (d : D) : Prop := ∃ P, toPy d = some P ∧ P.showable = true ∧ P.depth ≤ 8 ∧ P.shown.length ≤ n
theorem Gd.repr {n : Nat} {d : D} (h : Gd n d) (hn : n ≤ 16777216) : ∃ s, ∀ p, dRepr [d] p = some (.ok (.str s), p) := by
  obtain ⟨P, h1, h2, h3, h4⟩ := h
  refine ⟨P.shown, fun p => ?_⟩
  unfold dRepr
  dsimp only
  rw [h1]
  dsimp only
  rw [if_pos]
  · rfl
  · rw [h2, decide_eq_true (show P.depth ≤ 60 by omega)]
    unfold szOk
    rw [decide_eq_true (show P.shown.length ≤ 16777216 by omega)]
    rfl
theorem Gd.repr2 {n m : Nat} {d e : D} (h : Gd n d) (k : Gd m e) (hn : n + m + 10 ≤ 16777216) : ∃ s, ∀ p, dRepr [.lst [d, e]] p = some (.ok (.str s), p) := by
  obtain ⟨P, h1, h2, h3, h4⟩ := h
  obtain ⟨Q, k1, k2, k3, k4⟩ := k
  have e1 : toPy (.lst [d, e]) = some (.list [P, Q]) := by simp only [toPy, toPyL, h1, k1, Option.map_some]
  have e2 : (PyData.list [P, Q]).showable = true := by simp only [PyData.showable, PyData.showableAll, h2, k2, Bool.and_self]
  have e3 : (PyData.list [P, Q]).depth ≤ 60 := by
    simp only [PyData.depth, PyData.depthAll]
    omega
  have e4 : (PyData.list [P, Q]).shown.length ≤ 16777216 := by
    simp only [PyData.shown, PyData.shownAll]
    rw [PySem.listText_eq_join]
    simp [Str.join, PySem.Str.length_append]
    have l1 : ("[" : Str).length = 1 := by decide
    have l2 : (", " : Str).length = 2 := by decide
    have l3 : ("]" : Str).length = 1 := by decide
    omega
  refine ⟨(PyData.list [P, Q]).shown, fun p => ?_⟩
  unfold dRepr
  dsimp only
  rw [e1]
  dsimp only
  rw [if_pos]
  · rfl
  · rw [e2, decide_eq_true e3]
    unfold szOk
    rw [decide_eq_true e4]
    rfl
theorem gd_int {i : Int} (h0 : 0 ≤ i) (h : i < 10 ^ 100) : Gd 100 (.int i) := by
  refine ⟨.int i, rfl, ?_, by simp [PyData.depth], ?_⟩
  · simp only [PyData.showable]
    refine decide_eq_true ?_
    rcases Nat.eq_zero_or_pos i.natAbs with z | z
    · rw [z]; decide
    · refine (Nat.log2_lt (by omega)).mpr ?_
      have : i.natAbs < 10 ^ 100 := by omega
      exact Nat.lt_of_lt_of_le this (by decide)
  · simp only [PyData.shown]
    exact PyProof.Rows.toString_length_le h0 (by decide) h
def gdB (n : Nat) (d : D) : Bool := match toPy d with
  | some P => P.showable && decide (P.depth ≤ 8) && decide (P.shown.length ≤ n)
  | none => false
theorem gd_of {n : Nat} {d : D} (h : gdB n d = true) : Gd n d := by
  unfold gdB at h
  split at h
  · rename_i P e
    simp only [Bool.and_eq_true, decide_eq_true_eq] at h
    exact ⟨P, e, h.1.1, h.1.2, h.2⟩
  · cases h
theorem at_mem {α : Type} {l : List α} {i : Int} (h0 : 0 ≤ i) (h1 : i < (l.length : Int)) : ∃ d, L2.atI l i = some d ∧ d ∈ l ∧ l[i.toNat]? = some d := by
  have hi : i.toNat < l.length := by omega
  refine ⟨l[i.toNat], ?_, List.getElem_mem hi, List.getElem?_eq_getElem hi⟩
  have e : L2.ixN l.length i = some i.toNat := by
    unfold L2.ixN
    rw [if_pos h0, if_pos h1]
  unfold L2.atI
  rw [e]
  exact List.getElem?_eq_getElem hi
theorem ix_run {l : List D} {i : Int} {d : D} {p : Pn} (h : L2.atI l i = some d) : dIx (.lst l) (.int i) p = some (.ok d, p) := by
  show M.opt (L2.atI l i) p = _
  rw [h]
  rfl
/-! ### what a draw leaves -/
structure PnB (b : Int) (p : Pn) : Prop where
  lo : 0 ≤ p.no
  hi : p.no ≤ b
  len : p.cells.length ≤ 63
/-- m ends well, drawing at most k times -/
def Hd {α : Type} (k : Nat) (m : M α) (Q : α → Prop) : Prop := ∀ (b : Int) (p : Pn), PnB b p → b + k ≤ 1000000 → ∃ a p', m p = some (.ok a, p') ∧ Q a ∧ PnB (b + k) p'
theorem Hd.draw {C : DrC} (hC : C.ok = true) {many : Int} (h0 : 0 < many) (h1 : many < 2 ^ 8999) : Hd 1 (fnM 2 7 (bDraw C) [.pen, .int many]) (fun d => ∃ r, d = .int r ∧ 0 ≤ r ∧ r < many) := by
  intro b p hp hb
  obtain ⟨r, p', e, r0, r1, hc, n0, n1⟩ := drawF_some (C := C) h0 h1 ⟨hp.lo, by have := hp.hi; omega, hp.len⟩
  exact ⟨.int r, p', draw_run hC e, ⟨r, rfl, r0, r1⟩, ⟨by have := hp.lo; omega, by have := hp.hi; omega, by rw [hc]; exact hp.len⟩⟩
end ME

/-! try: .. except C as n: the exception is kept as a value. -/
namespace ME
open PySem PySem.Spec PyProof.Rows L2

section
variable {X : Cx} {pins : List (Addr × Obj)} {σ : L2.St} {H : Hp} {s : Shared}
/-- an object that is there, untracked and ours, is tracked from now on -/
theorem adopt {a : Addr} {o : HO} {oe : Obj} {vs : Array Value} (I : Inv X ((a, oe) :: pins) σ H s) (h0 : X.s_0.heap.get? a = none) (hd : oe.data = .fields vs) (hp : ∀ p ∈ X.pn ++ pins, p.1 ≠ a) (ho : ∀ x, o ≠ .own x) (ht : ∀ xs, o ≠ .tup xs) (hk : ObjOk X.prog X.w (upd H a o) s.heap a o) : Inv X pins σ (upd H a o) s := by
  obtain ⟨ha, na, nL, nF, nc⟩ := I.pin (a, oe) (List.mem_append_right _ List.mem_cons_self)
  have up : ∀ b u, H b = some u → upd H a o b = some u := fun b u e => by
    have : b ≠ a := fun z => by rw [z] at e; rw [show H a = none from na] at e; cases e
    rw [upd_ne this]; exact e
  refine ⟨I.ok, I.os, I.bare, ⟨I.base.keep, I.base.slot, fun b u e n hx => ?_, I.base.there, fun b xs e => up _ _ (I.base.tups b xs e), fun b u v e => up _ _ (I.base.frzs b u v e), fun b ps e => ?_⟩, I.loc, I.cell, ?_, fun x c e => ?_, fun p hp' => ?_, fun b u e => ?_, I.len⟩
  · have : b ≠ a := fun z => by rw [z, h0] at e; cases e
    rw [upd_ne this]; exact I.base.free b u e n hx
  · obtain ⟨more, q⟩ := I.base.tbls b ps e
    exact ⟨more, up _ _ q⟩
  · rw [upd_ne (Ne.symm nL)]; exact I.free
  · have : c ≠ a := fun z => by
      obtain ⟨v, q⟩ := I.cell x c e
      rw [z] at q
      obtain ⟨oc, e1, e2⟩ := q
      rw [show s.heap.get? a = some oe from ha] at e1
      cases e1
      exact nc _ (by first | exact e2 | exact e2.2 | exact e2.1)
    rw [upd_ne this]; exact I.freeC x c e
  · have q := I.pin p (by rcases List.mem_append.mp hp' with z | z
                          · exact List.mem_append_left _ z
                          · exact List.mem_append_right _ (List.mem_cons_of_mem _ z))
    exact ⟨q.1, by rw [upd_ne (hp p hp')]; exact q.2.1, q.2.2⟩
  · by_cases z : b = a
    · subst z
      rw [upd_same] at e
      cases e
      exact hk
    · rw [upd_ne z] at e
      refine (I.hok b u e).stay (fun c w' _ q => q) (fun c q => up _ _ q) fun c xs q => up _ _ q
end
/-- what 'except x as n' wishes of an exception of the body; behind the suite it is tracked -/
def wAsK (K : PySem.W.Frag) (c : Value) (i : Nat) (ts : Addr → Value → Option Addr → TS) (Wout : WX) (D : Ends) : WX := fun cls d σ H =>
  ∃ b C, cls = .ref C ∧ PySem.W.exmOne K cls c = some b ∧ (b = true → ∀ a, H a = none → ts a cls d { nx := fun σ' H' => H' a = none → D.nx (σ'.set i none) (upd H' a (ExV a C d)), rt := fun v H' => H' a = none → D.rt v (upd H' a (ExV a C d)), bk := fun σ' H' => H' a = none → D.bk (σ'.set i none) (upd H' a (ExV a C d)), ct := fun σ' H' => H' a = none → D.ct (σ'.set i none) (upd H' a (ExV a C d)) } (σ.set i (some (.ref a))) H) ∧
    (b = false → Wout cls d σ H)
section
variable {X : Cx} {x n : Str} {c : Value} {i : Nat} {body suite : List Stmt} {b₀ : Stmt} {np pos pos' : Pos} {tb : WX → TS} {ts : Addr → Value → Option Addr → TS} {Wout : WX}
theorem ps_tryK (hex : X.ex = []) (hs : X.stack = X.env :: X.outer) (hf : X.env.frame = some X.env.locals) (hN : X.N.Nodup) (hi : X.N[i]? = some n) (hln : X.env.kindOf n = some .local) (hc : Names X x c) (tk : Takes X Wout)
    (hb : ∀ (W : WX) (pn : List (Addr × Obj)) (xe : Value → Shared → Prop), Takes (X.tr pn xe) W → PassesOwn (model X.prog X.w) X.A X.env xe → PSs (X.tr pn xe) body (tb W))
    (hsu : ∀ (a : Addr) (oe : Obj) (cls : Value) (d : Option Addr) (pn : List (Addr × Obj)), Zc cls d oe → (∃ vs, oe.data = .fields vs) → PSs (X.suite a ((a, oe) :: pn)) (b₀ :: suite) (ts a cls d)) :
    PS X (.Try body [.ExceptHandler (some (.Name x np)) (some n) (b₀ :: suite) pos'] [] [] pos) (fun D σ H => tb (wAsK X.K c i ts Wout D) D σ H) := by
  refine ⟨fun pins s σ H D I h => ?_⟩
  have ok := I.ok
  have hfr : X.A.frames = some (X.env :: X.outer) := by rw [ok.frames, hs]
  have hloc : Loc X.env.scope n := .inl hln
  refine wpAny_Try_except ?_
  refine wpAny_mono ((hb (wAsK X.K c i ts Wout D) (X.pn ++ pins) (fun e s₁ => wpAny (model X.prog X.w) X.A (noteFrame e X.env) (fun _ s₂ => wpAny (model X.prog X.w) X.A (setFlight e none) (fun _ s₃ =>
    wpAny (model X.prog X.w) X.A (handleBy e X.env [.ExceptHandler (some (.Name x np)) (some n) (b₀ :: suite) pos']) (SP X pins D) X.xe s₃) X.xe s₂) X.xe s₁) (fun u s' xx => ?_) PassesOwn.looking).run [] s σ H D (I.toTry _) h) (fun f s1 hsp => ?_) (fun e s1 he => he)
  · obtain ⟨a, B, sI, pins', σ', H', cls, d, rfl, J', nb, up, sky, na, os, ag, b, C, ec, hb1, hyes, hno⟩ := xx
    have J : Inv X pins σ' H' sI := J'.ofTry ok
    have sky' : Sky B (X.env :: X.outer) a (Zc cls d) X.env.locals s'.heap := by rw [← hs]; exact sky
    show wpAny (model X.prog X.w) X.A (noteFrame (.ref a) X.env) _ _ _
    refine Sky.land Zc.steady hfr hf sky' fun h3 fl3 up3 => ?_
    have J3 : Inv X pins σ' H' { s' with heap := h3 } := J.landed nb fl3.1 (up.trans up3) os ag
    obtain ⟨oe3, vs3, he3, hz3, hd3⟩ := fl3.there
    have notFr : ∀ {h : Heap} {o : Obj} {vs : Array Value}, h.FunFrames B (X.env :: X.outer) → h.get? a = some o → o.data = .fields vs → a ∉ frs (X.env :: X.outer) := fun {h o vs} ff e dd hm => by
      obtain ⟨_, o', e', hnf⟩ := ff.mem hm
      rw [e] at e'; cases e'
      exact hnf _ dd
    have nfr := notFr fl3.2.2.1 he3 hd3
    have nL : a ≠ X.env.locals := fun z => nfr (List.mem_filterMap.mpr ⟨X.env, List.mem_cons_self, by rw [hf, z]⟩)
    have nF : a ∉ X.fs := fun hm => by
      obtain ⟨e, he, q⟩ := List.mem_filterMap.mp hm
      exact nfr (List.mem_filterMap.mpr ⟨e, List.mem_cons_of_mem _ he, q⟩)
    have nI : sI.heap.get? a = none := by
      cases q : sI.heap.get? a with
      | none => rfl
      | some o =>
        have := nb a o q (by rw [hs]; exact nfr)
        rw [fl3.2.1] at this; cases this
    have n0 : X.s_0.heap.get? a = none := by
      cases q : X.s_0.heap.get? a with
      | none => rfl
      | some o =>
        by_cases hx : a ∈ X.ex
        · rw [hex] at hx; cases hx
        · obtain ⟨o', e⟩ := J.base.there a o q hx
          rw [nI] at e; cases e
    have nP : ∀ p ∈ X.pn ++ pins, p.1 ≠ a := fun p hp z => by
      have := (J.pin p hp).1
      rw [z, nI] at this; cases this
    have S3 := J3.suite he3 hd3 na nL nF
    refine wpAny_handleBy_cons (codeAny_handlers_test ?_) (by intro q; cases q)
    have LT : PySem.W.Looks (model X.prog X.w) h3 (typeOf (.ref a)) cls := fun A Q E s k q => wpAny_typeOf_ref (k _ _ he3) (by rw [hz3.1]; exact q)
    have LM := PySem.W.exm_one (M := model X.prog X.w) (J3.kIn) LT hb1
    have test : ∀ {Q : Value → Shared → Prop} {E : Value → Shared → Prop}, Q c { s' with heap := h3 } → wpAny (model X.prog X.w) (X.A.mark (some (.ref a))) (eval (.Name x np) X.env) Q E { s' with heap := h3 } := fun {Q E} q => by
      obtain ⟨hg, hdbg, hm | ⟨hm, hv, hnn⟩⟩ := hc
      · exact ld_glob (X := X.suite a ((a, oe3) :: (X.pn ++ pins))) S3 hg hm q hdbg
      · exact ld_blt (X := X.suite a ((a, oe3) :: (X.pn ++ pins))) S3 hg hm hv q hnn hdbg
    refine test (LM.here ?_)
    cases b with
    | true =>
      refine codeAny_handlers_suite_as ?_
      refine HandSPX.lands_againZ fl3 fun h4 fl4 up4 => ?_
      have J4 : Inv X pins σ' H' { s' with heap := h4 } := J.landed nb fl4.1 ((up.trans up3).trans up4) os ag
      obtain ⟨oe4, vs4, he4, hz4, hd4⟩ := fl4.there
      have S4 := J4.suite he4 hd4 na nL nF
      refine store_ok (X := X.suite a ((a, oe4) :: (X.pn ++ pins))) (v := .ref a) S4 hN hi hloc rfl (fun s5 S5 => ?_) (.inr hln)
      refine wpAny_mono ((hsu a oe4 cls d (X.pn ++ pins) hz4 ⟨_, hd4⟩).run [] s5 _ H' _ S5 (hyes rfl a na)) (fun f s6 hsp => ?_) (fun _ _ z => False.elim z)
      have end_ : ∀ {σ6 : L2.St} {H6 : Hp} {Q : Shared → Prop}, Inv (X.suite a ((a, oe4) :: (X.pn ++ pins))) [] σ6 H6 s6 → (H6 a = none → ∀ s7, Inv X pins (σ6.set i none) (upd H6 a (ExV a C d)) s7 → Q s7) →
          wpAny (model X.prog X.w) X.A (do bindName X.env n .none; unbindBehindTheSuite X.env n pos') (fun _ s7 => Q s7) X.xe s6 := fun {σ6 H6 Q} S6 hq => by
        have J6 : Inv X ((a, oe4) :: pins) σ6 H6 s6 := ⟨ok, S6.os, S6.bare, S6.base, S6.loc, S6.cell, S6.free, S6.freeC, fun p hp => S6.pin p (List.mem_append_left _ (by
          rcases List.mem_append.mp hp with z | z
          · exact List.mem_cons_of_mem _ (List.mem_append_left _ z)
          · rcases List.mem_cons.mp z with z | z
            · rw [z]; exact List.mem_cons_self
            · exact List.mem_cons_of_mem _ (List.mem_append_right _ z))), S6.hok, S6.len⟩
        refine gone_ok J6 hN hi hln fun s7 J7 => ?_
        have pa := J7.pin (a, oe4) (List.mem_append_right _ List.mem_cons_self)
        refine hq pa.2.1 s7 (adopt J7 n0 hd4 nP (fun _ z => by cases z) (fun _ z => by cases z) (ExV_ok pa.1 (by rw [← ec]; exact hz4) hd4))
      cases f with
      | next =>
        obtain ⟨σ6, H6, S6, q6⟩ := hsp
        exact end_ S6 fun hn s7 J7 => ⟨_, _, J7, q6 hn⟩
      | brk =>
        obtain ⟨σ6, H6, S6, q6⟩ := hsp
        exact end_ S6 fun hn s7 J7 => ⟨_, _, J7, q6 hn⟩
      | cont =>
        obtain ⟨σ6, H6, S6, q6⟩ := hsp
        exact end_ S6 fun hn s7 J7 => ⟨_, _, J7, q6 hn⟩
      | ret u =>
        obtain ⟨v6, σ6, H6, S6, r6, q6⟩ := hsp
        exact end_ S6 fun hn s7 J7 => ⟨_, _, _, J7, r6, q6 hn⟩
    | false =>
      show wpAny _ X.A (handleBy (.ref a) X.env []) _ _ _
      refine wpAny_handleBy_nil ?_
      obtain ⟨k1, k2, k3, oe, vs, T, oT, ts', he, hz, hd, h1, hr⟩ := id fl3
      unfold PySem.passOn
      refine wpAny_bind (wpAny_field he hd h1 ?_)
      rw [if_neg (show ¬ ((Value.ref T == Value.none) = true) from by simp)]
      have fin : wpAny (model X.prog X.w) X.A (setFlight (.ref a) X.env.frame) (fun _ s4 => wpAny (model X.prog X.w) X.A (throw (.ref a) : Sem Flow) (SP X pins D) X.xe s4) X.xe { s' with heap := h3 } := by
        rw [hf]
        refine HandSPX.setFlight_upZ fl3 fun h4 hh4 up4 => wpAny_throw (tk _ _ ?_)
        exact ⟨a, B, sI, pins, σ', H', cls, d, rfl, J, nb, (up.trans up3).trans up4, .inr (.inr (by rw [hs]; exact hh4)), na, os, ag, hno rfl⟩
      first
        | exact wpAny_bind (wpAny_pure (wpAny_bind fin))
        | exact wpAny_bind fin
  · cases f with
    | next =>
      obtain ⟨σ', H', J', q⟩ := hsp
      exact wpAny_execs_nil ⟨σ', H', J'.ofTry ok, q⟩
    | brk =>
      obtain ⟨σ', H', J', q⟩ := hsp
      exact ⟨σ', H', J'.ofTry ok, q⟩
    | cont =>
      obtain ⟨σ', H', J', q⟩ := hsp
      exact ⟨σ', H', J'.ofTry ok, q⟩
    | ret u =>
      obtain ⟨v, σ', H', J', r, q⟩ := hsp
      exact ⟨v, σ', H', J'.ofTry ok, r, q⟩
/-! ### the mirror of: try: body / except x as n: y = n -/
/-- cs: the classes that the clause catches (of all exception classes known to T) -/
def sTry (T : IsT) (ci : Nat) (i j : Nat) (b : SX) : SX := fun δ p => match b δ p with
  | some (.er c fs δ', p') => if T.xs.contains c && decide (i < δ'.length) then (if T.sub c ci then some (.nx ((δ'.set j (some (.d (.exc c fs)))).set i none), p') else some (.er c fs δ', p')) else none
  | r => r
/-- what the clauses ask of the classes -/
def ExmF (S : Sg) (T : IsT) (ci : Nat) : Prop := ∀ c ∈ T.xs, PySem.W.exmOne S.K (.ref (S.ca c)) (.ref (S.ca ci)) = some (T.sub c ci)
theorem ms_try {m : Am} {T : IsT} {ci j k : Nat} {y : Str} {py pn' pa : Pos} {b : SX} (hex : X.ex = []) (hs : X.stack = X.env :: X.outer) (hf : X.env.frame = some X.env.locals) (hN : nodB X.N = true) (hi : ixB X.N i n = true) (hln : lclB X.env.scope n = true) (hn0 : nmB n = true)
    (hj : stoB X.N X.env.scope j y = true) (hij : Nat.beq i j = false) (hg : gloB X.env.scope x = true) (hx : nmB x = true) (hm : X.mg x = some (.ref (m.S.ca ci))) (B : Bx X m k) (F : ExmF m.S T ci)
    (hsw : ∀ env : Env, swapsWith (.Name n pn') (some (.Name y py)) pa.line env = pure false) (hfn : ∀ x, X.fn x = true)
    (hb : ∀ (W : WX) (pn : List (Addr × Obj)) (xe : Value → Shared → Prop), Takes (X.tr pn xe) W → PassesOwn (model X.prog X.w) X.A X.env xe → PSs (X.tr pn xe) body (tS { m with W := W } b)) :
    PS X (.Try body [.ExceptHandler (some (.Name x np)) (some n) [.Assign [.Name y py] (.Name n pn') pa] pos'] [] [] pos) (tS m (sTry T ci i j b)) := by
  have h1 := ixB_of hi
  have hnn := nmB_of hn0
  have hjj := hj
  unfold stoB at hjj
  simp only [Bool.and_eq_true] at hjj
  have hne : i ≠ j := fun z => by rw [z] at hij; simp at hij
  have suite : ∀ (a : Addr) (oe : Obj) (cls : Value) (d : Option Addr) (pn : List (Addr × Obj)), Zc cls d oe → (∃ vs, oe.data = .fields vs) → PSs (X.suite a ((a, oe) :: pn)) [.Assign [.Name y py] (.Name n pn') pa] (tAsg (tVar i) (gName j)) := fun a oe cls d pn _ _ =>
    pss_one (ps_set (X := X.suite a ((a, oe) :: pn)) (nodB_of hN) (ixB_of hjj.1) (locB_of hjj.2) (pe_var (X := X.suite a ((a, oe) :: pn)) h1 (.inl (lclB_of hln)) hnn.1 hnn.2.1) (hsw _) (.inl (hfn y)))
  refine PS.imp (ps_tryK (tb := fun W => tS { m with W := W } b) (ts := fun _ _ _ => tAsg (tVar i) (gName j)) (Wout := m.W) hex hs hf (nodB_of hN) h1 (lclB_of hln) ⟨gl_of hg, (nmB_of hx).1, .inl hm⟩ B.tk hb suite) fun K σ H h => ?_
  obtain ⟨G, p, δ, w, x, sl, h⟩ := h
  refine ⟨G, p, δ, w, x, sl, ?_⟩
  dsimp only [sTry] at h
  rcases he : b δ p with _ | ⟨o, p1⟩
  · rw [he] at h; exact h.elim
  · rw [he] at h
    cases o with
    | nx δ' => exact h
    | rt d => exact h
    | bk δ' => exact h
    | ct δ' => exact h
    | er c fs δ' =>
      intro d σ' G' H' sb w' x' sl' rx
      dsimp only at h
      split at h
      · rename_i hcc
        simp only [Bool.and_eq_true, List.contains_eq_mem, decide_eq_true_eq] at hcc
        refine ⟨T.sub c ci, m.S.ca c, rfl, by rw [B.hK]; exact F c hcc.1, fun hb1 a ha => ?_, fun hb1 => ?_⟩
        · rw [if_pos hb1] at h
          have hl : i < σ'.length := by
            rw [sl'.len]; exact hcc.2
          refine ⟨.ref a, by rw [List.getElem?_set_self hl], fun hna => ?_⟩
          have wa := Wd.alloc (o := ExV a (m.S.ca c) d) w' ha
          have xa : Ex m.pen G' H' (upd G' a (ExV a (m.S.ca c) d)) (upd H' a (ExV a (m.S.ca c) d)) := Ex.alloc ha (w'.gfree ha)
          refine h _ _ _ (sb.trans xa.sub) wa (x'.trans xa) ?_
          have rep : Rep m.S (upd G' a (ExV a (m.S.ca c) d)) m.pen (.ref a) (.exc c fs) := by
            cases d with
            | none => obtain ⟨e1, e2⟩ := rx; subst e1; exact .exc0 upd_same
            | some dx =>
              obtain ⟨fs', vs, h1, h2, h3, h4⟩ := rx
              have hda : dx ≠ a := fun z => by rw [z] at h1; rw [w'.gfree ha] at h1; cases h1
              exact .exc upd_same (by rw [upd_ne hda]; exact h1) h2 h3 (h4.mono xa.sub)
          have s1 := (((sl'.ex xa).set (i := j) rep).setNone (i := i))
          have e : ((σ'.set i (some (V.ref a))).set j (some (V.ref a))).set i none = (σ'.set j (some (V.ref a))).set i none := by
            rw [List.set_comm _ _ hne, set_same]
          show SlR _ _ _ _ _ (((σ'.set i (some (V.ref a))).set j (some (V.ref a))).set i none) _
          rw [e]
          exact s1
        · rw [if_neg (by rw [hb1]; simp)] at h
          exact h d σ' G' H' sb w' x' sl' rx
      · exact h.elim
end
end ME

/-! is None, chains, in a text, signs of a text, all([..]), constants of the module -/
namespace ME
open PySem PySem.Spec PyProof.Rows L2

/-! ### is None -/
def isNon : D → Bool
  | .non => true
  | _ => false
def dIsN (neg : Bool) : D → D → M D
  | d, .non => M.ret (.bl (neg ^^ isNon d))
  | _, _ => M.stuck
theorem rep_non {S : Sg} {G : Hp} {pen : Addr} {v : V} {d : D} (r : Rep S G pen v d) : decide (v = .non) = isNon d := by
  cases r <;> first | rfl | (simp [isNon])
section
variable {X : Cx} {m : Am} {j : Nat}
theorem r_isN : R2Ok m (fun x y H Q => y = .non ∧ Q (.bl (decide (x = .non))) H) (dIsN false) := by
  rintro σ x y H Q ⟨G, p, δ, ⟨⟨_, dx⟩, dy⟩, w, sl, ⟨⟨_, rx⟩, ry⟩, h⟩
  have rx : Rep m.S G m.pen x dx := rx
  have ry : Rep m.S G m.pen y dy := ry
  cases ry with
  | non => exact ⟨rfl, by rw [rep_non rx]; exact fin_same w (.bl _) (by simpa [dIsN] using h)⟩
  | _ => exact h.elim
theorem r_notN : R2Ok m (fun x y H Q => y = .non ∧ Q (.bl (!decide (x = .non))) H) (dIsN true) := by
  rintro σ x y H Q ⟨G, p, δ, ⟨⟨_, dx⟩, dy⟩, w, sl, ⟨⟨_, rx⟩, ry⟩, h⟩
  have rx : Rep m.S G m.pen x dx := rx
  have ry : Rep m.S G m.pen y dy := ry
  cases ry with
  | non => exact ⟨rfl, by rw [rep_non rx]; exact fin_same w (.bl _) (by simpa [dIsN] using h)⟩
  | _ => exact h.elim
theorem c_is : CmpT X m .Is (dIsN false) := ⟨_, op_isN, r_isN⟩
theorem c_isn : CmpT X m .IsNot (dIsN true) := ⟨_, op_notN, r_notN⟩
/-! ### in a list, in a tuple, in a text -/
def dInS (neg : Bool) : D → D → M D
  | .str i, .str j => M.ret (.bl (neg ^^ !(Builtin.Str.occurrences j i 0 j.length 1).isEmpty))
  | x, y => dIn neg x y
theorem r_inS (hK : X.K = m.S.K) : R2Ok m (fun x y H Q => (∃ i j, x = .str i ∧ y = .str j ∧ Q (.bl (!(Builtin.Str.occurrences j i 0 j.length 1).isEmpty)) H) ∨ rIn X.K false x y H Q) (dInS false) := by
  rintro σ x y H Q ⟨G, p, δ, ⟨⟨_, dx⟩, dy⟩, w, sl, ⟨⟨_, rx⟩, ry⟩, h⟩
  have rx : Rep m.S G m.pen x dx := rx
  have ry : Rep m.S G m.pen y dy := ry
  by_cases hs : ∃ i j, dx = .str i ∧ dy = .str j
  · obtain ⟨i, j, rfl, rfl⟩ := hs
    cases rx
    cases ry
    exact .inl ⟨i, j, rfl, rfl, fin_same w (.bl _) (by simpa [dInS] using h)⟩
  · refine .inr (r_in hK σ x y H Q ⟨G, p, δ, ⟨⟨(), dx⟩, dy⟩, w, sl, ⟨⟨trivial, rx⟩, ry⟩, ?_⟩)
    have e : dInS false dx dy = dIn false dx dy := by
      cases dx <;> cases dy <;> first | rfl | exact absurd ⟨_, _, rfl, rfl⟩ hs
    dsimp only at h ⊢
    rw [e] at h
    exact h
theorem r_ninS (hK : X.K = m.S.K) : R2Ok m (fun x y H Q => (∃ i j, x = .str i ∧ y = .str j ∧ Q (.bl (!(!(Builtin.Str.occurrences j i 0 j.length 1).isEmpty))) H) ∨ rIn X.K true x y H Q) (dInS true) := by
  rintro σ x y H Q ⟨G, p, δ, ⟨⟨_, dx⟩, dy⟩, w, sl, ⟨⟨_, rx⟩, ry⟩, h⟩
  have rx : Rep m.S G m.pen x dx := rx
  have ry : Rep m.S G m.pen y dy := ry
  by_cases hs : ∃ i j, dx = .str i ∧ dy = .str j
  · obtain ⟨i, j, rfl, rfl⟩ := hs
    cases rx
    cases ry
    exact .inl ⟨i, j, rfl, rfl, fin_same w (.bl _) (by simpa [dInS] using h)⟩
  · refine .inr (r_in hK σ x y H Q ⟨G, p, δ, ⟨⟨(), dx⟩, dy⟩, w, sl, ⟨⟨trivial, rx⟩, ry⟩, ?_⟩)
    have e : dInS true dx dy = dIn true dx dy := by
      cases dx <;> cases dy <;> first | rfl | exact absurd ⟨_, _, rfl, rfl⟩ hs
    dsimp only at h ⊢
    rw [e] at h
    exact h
theorem c_inS (B : Bx X m j) : CmpT X m .In (dInS false) := ⟨_, OpR.or op_in_str op_in_seq, r_inS B.hK⟩
theorem c_ninS (B : Bx X m j) : CmpT X m .NotIn (dInS true) := ⟨_, OpR.or op_notIn_str op_notIn_seq, r_ninS B.hK⟩
/-! ### a op b op' c -/
def mChn (o o' : D → D → M D) (a b c : EX) : EX := fun δ => (a δ).bnd fun x => (b δ).bnd fun y => (o x y).bnd fun z => (M.opt (dB z)).bnd fun k => if k = true then (c δ).bnd fun w => o' y w else M.ret (.bl false)
variable {a b c : Expr} {ea eb ec : EX} {pos : Pos}
theorem chn_of {r r' : R2} {o o' : D → D → M D} (hr : R2Ok m r o) (hr' : R2Ok m r' o') {σ : L2.St} {H : Hp} {Q : VK} (h : tE m (mChn o o' ea eb ec) σ H Q) : tChain r r' (tE m ea) (tE m eb) (tE m ec) σ H Q := by
  refine (tY_bind (R1 := m.rE) r0_mono h).imp fun x H1 h2 => ?_
  refine (tY_bind (R1 := m.rE) (rP_mono r0_mono (rE_mono m)) h2).imp fun y H2 h4 => hr σ x y H2 _ ?_
  obtain ⟨G, p, δ, ⟨⟨u, dx⟩, dy⟩, w, sl, ⟨⟨_, rx⟩, ry⟩, h5⟩ := h4
  have rx : Rep m.S G m.pen x dx := rx
  have ry : Rep m.S G m.pen y dy := ry
  refine ⟨G, p, δ, ⟨⟨(), dx⟩, dy⟩, w, sl, ⟨⟨trivial, rx⟩, ry⟩, ?_⟩
  dsimp only [M.bnd] at h5 ⊢
  rcases he : o dx dy p with _ | ⟨q, p1⟩
  · rw [he] at h5; exact h5
  · cases q with
    | ex c fs => rw [he] at h5; exact h5
    | ok z =>
      rw [he] at h5
      intro v G' H' x' w' r
      have r : Rep m.S G' m.pen v z := r
      cases r with
      | bl k =>
        refine ⟨k, rfl, ?_⟩
        cases k with
        | false =>
          rw [if_neg (by simp)]
          exact h5 (.bl false) G' H' x' w' (.bl false)
        | true =>
          rw [if_pos rfl]
          have ry' := ry.mono x'.sub
          have h6 : tY m (rP r0 m.rE) m.rE ((), y) (fun z δ => (ec δ).bnd fun w => o' z.2 w) σ H' Q := ⟨G', p1, δ, ((), dy), w', sl.ex x', ⟨trivial, ry'⟩, Post.ex x' h5⟩
          refine (tY_bind (R1 := m.rE) (rP_mono r0_mono (rE_mono m)) h6).imp fun v3 H3 h7 => hr' σ y v3 H3 Q ?_
          exact h7
      | _ => exact h5.elim
theorem me_chn {op op' : CmpOp} {o o' : D → D → M D} (C : CmpT X m op o) (C' : CmpT X m op' o') (ha : PE X a (tE m ea)) (hb : PE X b (tE m eb)) (hc : PE X c (tE m ec)) (hm : lastMarks [op, op'] [b, c] = false := by with_unfolding_all rfl) :
    PE X (.Compare a [op, op'] [b, c] pos) (tE m (mChn o o' ea eb ec)) := by
  obtain ⟨r, h1, h2⟩ := C.ex
  obtain ⟨r', h1', h2'⟩ := C'.ex
  exact PE.imp (pe_chain h1 h1' ha hb hc hm) fun σ H Q h => chn_of h2 h2' h
theorem mt_chn {op op' : CmpOp} {o o' : D → D → M D} (C : CmpT X m op o) (C' : CmpT X m op' o') (ha : PE X a (tE m ea)) (hb : PE X b (tE m eb)) (hc : PE X c (tE m ec)) (hm : lastMarks [op, op'] [b, c] = false := by with_unfolding_all rfl) :
    PT X (.Compare a [op, op'] [b, c] pos) (tT m (mTest (mChn o o' ea eb ec))) := by
  obtain ⟨r, h1, h2⟩ := C.ex
  obtain ⟨r', h1', h2'⟩ := C'.ex
  refine PT.imp (pt_chain h1 h1' ha hb hc hm) fun σ H Q h => ?_
  refine chn_of h2 h2' ?_
  obtain ⟨G, p, δ, u, w, sl, r, h⟩ := h
  refine ⟨G, p, δ, u, w, sl, r, ?_⟩
  dsimp only [mTest, M.bnd] at h ⊢
  rcases he : mChn o o' ea eb ec δ p with _ | ⟨q, p1⟩
  · rw [he] at h; exact h
  · rw [he] at h
    cases q with
    | ex c fs => exact h
    | ok z =>
      intro v G' H' x' w' r
      have r : Rep m.S G' m.pen v z := r
      cases r with
      | bl k => exact ⟨k, rfl, h k G' H' x' w' rfl⟩
      | _ => exact h.elim
/-! ### the signs of a text -/
def iTxt (e : EX) : DS → M (List D) := fun δ => (e δ).bnd fun d => match d with
  | .str x => M.ret (x.cps.toList.map fun c => D.str ⟨#[c]⟩)
  | _ => M.stuck
theorem mi_txt {tg e : Expr} {ea : EX} (h : PE X e (tE m ea)) : PI X tg e (tI m (iTxt ea)) := by
  refine PI.imp (pi_str h) fun σ H R h => ?_
  refine (tY_bind (R1 := m.rE) r0_mono h).imp fun x H1 h2 => ?_
  obtain ⟨G, p, δ, ⟨_, d⟩, w, sl, ⟨_, r⟩, h5⟩ := h2
  have r : Rep m.S G m.pen x d := r
  cases r with
  | str z =>
    refine ⟨z, rfl, h5 _ G H1 Ex.refl w ?_⟩
    intro G' H' p' s' w'
    refine ⟨fun i d e => ?_, fun i hi => ?_⟩
    · rw [List.getElem?_map] at e
      cases q : z.cps.toList[i]? with
      | none => rw [q] at e; cases e
      | some k =>
        rw [q] at e
        cases e
        have hi := (List.getElem?_eq_some_iff.mp q).1
        refine ⟨by first | exact hi | simpa using hi, fun y H2 ⟨e2, k', q', q2⟩ => ?_⟩
        subst e2 q2
        rw [Array.getElem?_toList] at q
        have : some k = some k' := q.symm.trans q'
        cases this
        exact ⟨G', Ex.refl, w', .str _⟩
    · rw [List.length_map] at hi
      first | exact hi | simpa using hi
  | _ => exact h5.elim
end
end ME

/-! More built-ins; a, b = value; constants of the module. -/
namespace ME
open PySem PySem.Spec PyProof.Rows L2

def blsOf : List D → Option (List Bool)
  | [] => some []
  | .bl b :: r => (blsOf r).map (b :: ·)
  | _ => none
def intsOf : List D → Option (List Int)
  | [] => some []
  | .int b :: r => (intsOf r).map (b :: ·)
  | _ => none
def strsOf : List D → Option (List Str)
  | [] => some []
  | .str b :: r => (strsOf r).map (b :: ·)
  | _ => none
theorem bls_reps {S : Sg} {G : Hp} {pen : Addr} : ∀ {vs : List V} {ds : List D} {bs : List Bool}, Reps S G pen vs ds → blsOf ds = some bs → vs = bs.map V.bl
  | _, _, _, .nil, e => by cases e; rfl
  | _, _, _, .cons (d := d) (ds := ds) r rr, e => by
    cases r with
    | bl b =>
      simp only [blsOf, Option.map_eq_some_iff] at e
      obtain ⟨cs, e1, rfl⟩ := e
      rw [bls_reps rr e1]; rfl
    | _ => cases e
theorem ints_repsO {S : Sg} {G : Hp} {pen : Addr} : ∀ {vs : List V} {ds : List D} {bs : List Int}, Reps S G pen vs ds → intsOf ds = some bs → vs = bs.map V.int
  | _, _, _, .nil, e => by cases e; rfl
  | _, _, _, .cons (d := d) (ds := ds) r rr, e => by
    cases r with
    | int b =>
      simp only [intsOf, Option.map_eq_some_iff] at e
      obtain ⟨cs, e1, rfl⟩ := e
      rw [ints_repsO rr e1]; rfl
    | _ => cases e
theorem strs_repsO {S : Sg} {G : Hp} {pen : Addr} : ∀ {vs : List V} {ds : List D} {bs : List Str}, Reps S G pen vs ds → strsOf ds = some bs → vs = bs.map V.str
  | _, _, _, .nil, e => by cases e; rfl
  | _, _, _, .cons (d := d) (ds := ds) r rr, e => by
    cases r with
    | str b =>
      simp only [strsOf, Option.map_eq_some_iff] at e
      obtain ⟨cs, e1, rfl⟩ := e
      rw [strs_repsO rr e1]; rfl
    | _ => cases e
theorem reps_strs {S : Sg} {G : Hp} {pen : Addr} : ∀ l : List Str, Reps S G pen (l.map V.str) (l.map D.str)
  | [] => .nil
  | i :: l => .cons (.str i) (reps_strs l)
def dAll : List D → M D
  | [.lst l] => match blsOf l with | some bs => M.ret (.bl (bs.all id)) | none => M.stuck
  | _ => M.stuck
def dAny : List D → M D
  | [.lst l] => match blsOf l with | some bs => M.ret (.bl (bs.any id)) | none => M.stuck
  | _ => M.stuck
def dSum : List D → M D
  | [.lst l] => match intsOf l with | some bs => M.ret (.int bs.sum) | none => M.stuck
  | _ => M.stuck
def dLst1 : List D → M D
  | [.lst l] => M.ret (.lst l)
  | [.tup l] => M.ret (.lst l)
  | _ => M.stuck
def dTup1 : List D → M D
  | [.lst l] => M.ret (.tup l)
  | [.tup l] => M.ret (.tup l)
  | _ => M.stuck
def dStr1 : List D → M D
  | [.int i] => if decide (i.natAbs.log2 < 1920) then M.ret (.str (toString i)) else M.stuck
  | [.str x] => M.ret (.str x)
  | _ => M.stuck
def dMax2 : List D → M D
  | [.int i, .int j] => M.ret (.int (if j > i then j else i))
  | _ => M.stuck
def dMin2 : List D → M D
  | [.int i, .int j] => M.ret (.int (if j < i then j else i))
  | _ => M.stuck
section
variable {X : Cx} {m : Am} {j : Nat}
/-- one value handed over -/
theorem ra_one {r : List V → Hp → VK → Prop} {f : List D → M D} (h0 : f [] = M.stuck) (h2 : ∀ a b l, f (a :: b :: l) = M.stuck) (h1 : ∀ (σ : L2.St) (x : V) (H : Hp) (Q : VK) (G : Hp) (p : Pn) (δ : DS) (d : D), Wd m.S m.pen G H p → SlR m.S m.pen m.B G H σ δ → Rep m.S G m.pen x d → Post m.S m.pen m.rE G H Q (fun c d H' => m.W c d σ H') (f [d] p) → r [x] H Q) : RAOk m r f := by
  rintro σ xs H Q ⟨G, p, δ, ⟨_, ds⟩, w, sl, ⟨_, rr⟩, h⟩
  have rr : Reps m.S G m.pen xs ds := rr
  cases rr with
  | nil => dsimp only at h; rw [h0] at h; exact h.elim
  | cons r1 r2 => cases r2 with
    | nil => exact h1 σ _ H Q G p δ _ w sl r1 h
    | cons _ _ => dsimp only at h; rw [h2] at h; exact h.elim
theorem r_all (hK : X.K = m.S.K) : RAOk m (rAll X.K) dAll := by
  refine ra_one rfl (fun a b l => by cases a <;> rfl) fun σ x H Q G p δ d w sl r h => ?_
  rw [hK]
  cases r with
  | @lst a vs ds ha ra =>
    dsimp only [dAll] at h
    cases e : blsOf ds with
    | none => rw [e] at h; exact h.elim
    | some bs =>
      rw [e] at h
      have := bls_reps ra e
      subst this
      exact ⟨a, bs, rfl, .of (w.sub _ _ ha), fin_same w (.bl _) h⟩
  | _ => exact h.elim
theorem r_any (hK : X.K = m.S.K) : RAOk m (rAny X.K) dAny := by
  refine ra_one rfl (fun a b l => by cases a <;> rfl) fun σ x H Q G p δ d w sl r h => ?_
  rw [hK]
  cases r with
  | @lst a vs ds ha ra =>
    dsimp only [dAny] at h
    cases e : blsOf ds with
    | none => rw [e] at h; exact h.elim
    | some bs =>
      rw [e] at h
      have := bls_reps ra e
      subst this
      exact ⟨a, bs, rfl, .of (w.sub _ _ ha), fin_same w (.bl _) h⟩
  | _ => exact h.elim
theorem r_sum (hK : X.K = m.S.K) : RAOk m (rSum X.K) dSum := by
  refine ra_one rfl (fun a b l => by cases a <;> rfl) fun σ x H Q G p δ d w sl r h => ?_
  rw [hK]
  cases r with
  | @lst a vs ds ha ra =>
    dsimp only [dSum] at h
    cases e : intsOf ds with
    | none => rw [e] at h; exact h.elim
    | some bs =>
      rw [e] at h
      have := ints_repsO ra e
      subst this
      exact ⟨a, bs, rfl, .of (w.sub _ _ ha), fin_same w (.int _) h⟩
  | _ => exact h.elim
theorem r_lst1 (hK : X.K = m.S.K) : RAOk m (fun xs H Q => ∃ p ys, xs = [.ref p] ∧ (SqL X.K H p ys ∨ SqT X.K H p ys) ∧ ∀ l, H l = none → Q (.ref l) (upd H l (.lst ys))) dLst1 := by
  refine ra_one rfl (fun a b l => by cases a <;> rfl) fun σ x H Q G p δ d w sl r h => ?_
  rw [hK]
  cases r with
  | @lst a vs ds ha ra => exact ⟨a, vs, rfl, .inl (.of (w.sub _ _ ha)), fin_new w h fun c hc => .lst upd_same (ra.mono (Sub.alloc (w.gfree hc)))⟩
  | @tup a vs ds ha ra => exact ⟨a, vs, rfl, .inr (w.sub.sqt ha), fin_new w h fun c hc => .lst upd_same (ra.mono (Sub.alloc (w.gfree hc)))⟩
  | _ => exact h.elim
theorem r_tup1 (hK : X.K = m.S.K) : RAOk m (fun xs H Q => ∃ p ys, xs = [.ref p] ∧ ((SqL X.K H p ys ∧ ∀ l, H l = none → Q (.ref l) (upd H l (.tup ys))) ∨ (SqT X.K H p ys ∧ Q (.ref p) H))) dTup1 := by
  refine ra_one rfl (fun a b l => by cases a <;> rfl) fun σ x H Q G p δ d w sl r h => ?_
  rw [hK]
  cases r with
  | @lst a vs ds ha ra => exact ⟨a, vs, rfl, .inl ⟨.of (w.sub _ _ ha), fin_new w h fun c hc => .tup (.of upd_same) (ra.mono (Sub.alloc (w.gfree hc)))⟩⟩
  | @tup a vs ds ha ra => exact ⟨a, vs, rfl, .inr ⟨w.sub.sqt ha, fin_same w (.tup ha ra) h⟩⟩
  | _ => exact h.elim
theorem r_str1 : RAOk m (fun xs H Q => (∃ i, xs = [.int i] ∧ i.natAbs.log2 < 1920 ∧ Q (.str (toString i)) H) ∨ ∃ a, xs = [.str a] ∧ Q (.str a) H) dStr1 := by
  refine ra_one rfl (fun a b l => by cases a <;> rfl) fun σ x H Q G p δ d w sl r h => ?_
  cases r with
  | int i =>
    dsimp only [dStr1] at h
    split at h
    · rename_i hz
      exact .inl ⟨i, rfl, of_decide_eq_true hz, fin_same w (.str _) h⟩
    · exact h.elim
  | str z => exact .inr ⟨z, rfl, fin_same w (.str _) h⟩
  | _ => exact h.elim
theorem b_all (B : Bx X m j) : BltT X m "all" dAll := ⟨.inl ⟨_, _, rfl, cr_all B.calm, r_all B.hK⟩⟩
theorem b_any (B : Bx X m j) : BltT X m "any" dAny := ⟨.inl ⟨_, _, rfl, cr_any B.calm, r_any B.hK⟩⟩
theorem b_sum (B : Bx X m j) : BltT X m "sum" dSum := ⟨.inl ⟨_, _, rfl, cr_sum B.calm, r_sum B.hK⟩⟩
theorem b_list (B : Bx X m j) : BltT X m "list" dLst1 := ⟨.inr ⟨_, _, rfl, call_list_of, r_lst1 B.hK⟩⟩
theorem b_tuple (B : Bx X m j) : BltT X m "tuple" dTup1 := ⟨.inr ⟨_, _, rfl, call_tuple_of, r_tup1 B.hK⟩⟩
theorem b_str (B : Bx X m j) : BltT X m "str" dStr1 := ⟨.inr ⟨_, _, rfl, CallR.or call_str_int SkE.call_str_str, r_str1⟩⟩
/-! ### a, b = value -/
def sUnp (g : GX) (e : EX) : SX := sBnd e fun d δ p => match g d δ with
  | some δ' => some (.nx δ', p)
  | none => none
theorem ms_unp {tg e : Expr} {ea : EX} {g : GX} {js : List Nat} {pos : Pos} (he : PE X e (tE m ea)) (hg : PG X tg (tG m js g)) (hs : swapsWithSole [tg] e pos.line X.env = pure false := by rfl) (hw : swappedStores [tg] e X.env = pure none := by rfl)
    (h1 : (assignEach [tg] X.env).map (·.2) = [assign tg X.env] := by rfl) : PS X (.Assign [tg] e pos) (tS m (sUnp g ea)) := by
  refine PS.imp (ps_asg he hg hs hw h1) fun K σ H h => ?_
  refine (tS_bind (R := m.rE) h).imp fun v H1 ⟨d, G, p, δ, w, x, sl, r, q⟩ => ?_
  cases e : g d δ with
  | none => rw [e] at q; exact q.elim
  | some δ' =>
    rw [e] at q
    exact ⟨G, p, δ, d, w, sl, r, δ', e, fun σ' _ sl' => q σ' G H1 (Sub.refl _) w x sl'⟩
/-! ### constants of the module -/
inductive Cn where
  | i (z : Int)
  | s (z : Str)
def Cn.d : Cn → D
  | .i z => .int z
  | .s z => .str z
def cnIs (c : Cn) (v : Value) : Bool := match c, v with
  | .i z, .int y _ => z == y
  | .s z, .str y _ => z == y
  | _, _ => false
def CnAt (mg : Str → Option Value) (x : Str) (c : Cn) : Prop := ∃ v, mg x = some v ∧ cnIs c v = true
theorem me_cn {x : Str} {c : Cn} {pos : Pos} (h : CnAt X.mg x c) (hg : gloB X.env.scope x = true) (hx : nmB x = true) : PE X (.Name x pos) (tE m (mC c.d)) := by
  obtain ⟨v, h1, h2⟩ := h
  cases c with
  | i z =>
    cases v with
    | int y t => have : z = y := beq_iff_eq.mp h2; subst this; exact me_gint (gl_of hg) h1 (nmB_of hx).1
    | _ => cases h2
  | s z =>
    cases v with
    | str y t => have : z = y := beq_iff_eq.mp h2; subst this; exact me_gstr (gl_of hg) h1 (nmB_of hx).1
    | _ => cases h2
/-- the constants of the module, asked of K -/
def cnsB (K : PySem.W.Frag) (l : List (Str × Cn)) : Bool := l.all fun q => match PySem.W.nsIn K mainGlobals q.1 with
  | some (some v) => cnIs q.2 v
  | _ => false
theorem cns_of {K : PySem.W.Frag} {h : Heap} {mg : Str → Option Value} (Y : K.In h) (G : h.Ns mainGlobals mg) {l : List (Str × Cn)} (e : cnsB K l = true) : ∀ (i : Nat) (x : Str) (c : Cn), l[i]? = some (x, c) → CnAt mg x c := fun i x c hi => by
  have := List.all_eq_true.mp e _ (List.mem_of_getElem? hi)
  dsimp only at this
  split at this
  · rename_i v hv
    exact ⟨v, PySem.W.mg_of Y G hv, this⟩
  · cases this
end
end ME

/-! Instances of own classes: made by __init__, then frozen. -/
namespace ME
open PySem PySem.Spec PyProof.Rows L2

/-- a heap of which the object at a is exempt (marked by its dict's address); no other mark stands in it -/
def mkH (H : Hp) (a dx : Addr) : Hp := fun b => if b = a then some (.tbl #[.ref dx]) else match H b with
  | some (.tbl _) => some (.tbl #[])
  | o => o
theorem mkH_same {H : Hp} {a dx : Addr} : mkH H a dx a = some (.tbl #[.ref dx]) := if_pos rfl
theorem mkH_mark {H : Hp} {a dx b dy : Addr} (h : mkH H a dx b = some (.tbl #[.ref dy])) : b = a ∧ dy = dx := by
  unfold mkH at h
  split at h
  · rename_i e; cases h; exact ⟨e, rfl⟩
  · split at h
    · cases h
    · rename_i hn; exact absurd h (hn _)
theorem mkH_none {H : Hp} {a dx b : Addr} (h : mkH H a dx b = none) : H b = none ∧ b ≠ a := by
  unfold mkH at h
  split at h
  · cases h
  · rename_i e
    refine ⟨?_, e⟩
    split at h
    · cases h
    · exact h
theorem none_mkH {H : Hp} {a dx b : Addr} (h : H b = none) (e : b ≠ a) : mkH H a dx b = none := by
  unfold mkH
  rw [if_neg e, h]
theorem mkH_some {H : Hp} {a dx b : Addr} {o : HO} (h : mkH H a dx b = some o) (nt : ∀ x, o ≠ .tbl x) : H b = some o ∧ b ≠ a := by
  unfold mkH at h
  split at h
  · cases h; exact absurd rfl (nt _)
  · rename_i e
    refine ⟨?_, e⟩
    split at h
    · cases h; exact absurd rfl (nt _)
    · exact h
theorem some_mkH {H : Hp} {a dx b : Addr} {o : HO} (h : H b = some o) (nt : ∀ x, o ≠ .tbl x) (e : b ≠ a) : mkH H a dx b = some o := by
  unfold mkH
  rw [if_neg e, h]
  split
  · rename_i z; cases z; exact absurd rfl (nt _)
  · rfl
/-- what is claimed behind an __init__ of the object at a (its dict at dx) -/
def PostO (S : Sg) (pen a dx : Addr) (c : Nat) (G H : Hp) (Q : VK) (E : XK) : Option (Out (List D) × Pn) → Prop
  | none => False
  | some (.ok fs, p) => ∀ vs G' H', Ex pen G (mkH H a dx) G' H' → Wd S pen G' H' p → H' a = some (.ins (S.ca c) dx ((S.nm c).zip vs)) → vs.length = (S.nm c).length → Reps S G' pen vs fs → G' a = none → Q .non H'
  | some (.ex k fs, p) => ∀ d G' H', Ex pen G (mkH H a dx) G' H' → Wd S pen G' H' p → RepX S G' pen d k fs → E (.ref (S.ca k)) d H'
/-- the __init__ computes the fields by f -/
def spO (S : Sg) (c : Nat) (f : List D → M (List D)) : Sp := fun vs H Q E => ∃ pen G p a dx ws ds, vs = .ref a :: ws ∧ H a = some (.ins (S.ca c) dx []) ∧ G a = none ∧ a ≠ pen ∧ Wd S pen G H p ∧ Reps S G pen ws ds ∧ PostO S pen a dx c G H Q E (f ds p)
/-- an __init__: class, parameters behind self, slots, number of fields, body -/
def dsI (c n : Nat) (ds : List D) : DS := some (.mo c []) :: (ds.map (fun d => some (.d d)) ++ List.replicate (n - 1 - ds.length) none)
def inOf (c nf : Nat) : Option (Fl × Pn) → Option (Out (List D) × Pn)
  | some (.nx δ, p') => match (δ[0]? : Option (Option Sl)) with
    | some (some (Sl.mo c' xs)) => if c' = c ∧ xs.length = nf then some (.ok xs, p') else none
    | _ => none
  | some (.er k fs _, p') => some (.ex k fs, p')
  | _ => none
def inM (c np n nf : Nat) (s : SX) : List D → M (List D) := fun ds p => if ds.length = np then inOf c nf (s (dsI c n ds) p) else none
theorem SlR.startO {S : Sg} {pen a dx : Addr} {c : Nat} {B G H : Hp} {x : Str} {N : List Str} {vs : List V} {ds : List D} (r : Reps S G pen vs ds) (hN : N.length = 1 + (vs.length + (N.length - 1 - vs.length))) (ha : H a = some (.ins (S.ca c) dx [])) (hg : G a = none) (hp : a ≠ pen) (hb : B a = some (.tbl #[.ref dx])) : SlR S pen B G H (L2.start N (.ref a :: vs)) (dsI c N.length ds) := by
  have hl := r.length
  have look : ∀ (i : Nat) s, (dsI c N.length ds)[i]? = some (some s) → (i = 0 ∧ s = .mo c []) ∨ ∃ k d, i = k + 1 ∧ s = .d d ∧ ds[k]? = some d ∧ k < ds.length := fun i s e => by
    cases i with
    | zero => exact .inl ⟨rfl, (Option.some.inj (Option.some.inj e)).symm⟩
    | succ i =>
      have e : (ds.map (fun d => some (Sl.d d)) ++ List.replicate (N.length - 1 - ds.length) none)[i]? = some (some s) := e
      by_cases hi : i < ds.length
      · rw [List.getElem?_append_left (by simpa using hi), List.getElem?_map] at e
        cases q : ds[i]? with
        | none => rw [q] at e; cases e
        | some d => rw [q] at e; exact .inr ⟨i, d, rfl, (Option.some.inj (Option.some.inj e)).symm, q, hi⟩
      · rw [List.getElem?_append_right (by simpa using hi), List.getElem?_replicate] at e
        split at e <;> cases e
  refine ⟨?_, fun i y e => ?_, fun i xs e => ?_, fun i xs e => ?_, fun i k xs e => ?_, fun i j s t l e1 e2 n1 n2 _ _ => ?_⟩
  · simp [L2.start, dsI, hl]; omega
  · rcases look i _ e with ⟨_, z⟩ | ⟨k, d, rfl, z, q, hi⟩
    · cases z
    · cases z
      obtain ⟨v, e1, rv⟩ := r.get q
      refine ⟨v, ?_, rv⟩
      unfold L2.start
      rw [List.getElem?_append_left (by simp [hl]; exact hi), List.getElem?_map, List.getElem?_cons_succ, e1]
      rfl
  · rcases look i _ e with ⟨_, z⟩ | ⟨k, d, _, z, _⟩ <;> cases z
  · rcases look i _ e with ⟨_, z⟩ | ⟨k, d, _, z, _⟩ <;> cases z
  · rcases look i _ e with ⟨rfl, z⟩ | ⟨k, d, _, z, _⟩
    · cases z
      exact ⟨a, dx, [], rfl, by simpa using ha, .nil, Nat.zero_le _, hg, hp, hb⟩
    · cases z
  · rcases look i _ e1 with ⟨rfl, _⟩ | ⟨k, d, _, z, _⟩
    · rcases look j _ e2 with ⟨rfl, _⟩ | ⟨k, d, _, z, _⟩
      · rfl
      · exact absurd z (n2 d)
    · exact absurd z (n1 d)
/-- THE RULE for an __init__ -/
theorem fn_okO {P : Program} {w : World} {K : PySem.W.Frag} {mg : Str → Option Value} {base : Heap} {x qual : Str} {st : Stmt} {f : Addr} {fd : FuncData} {N ps : List Str} {k c : Nat} {S : Sg} {body : SX} (F : FunG K x qual st f fd) (Sc : FnScope N ("self" :: ps) (defScope st)) (hN : Nat.ble (ps.length + 1) N.length = true)
    (hb : ∀ (cdv : Value) (A : Around) (outer : List Env) (s : Shared) (pen : Addr) (G0 B H : Hp) (E : XK), A.guards = some [] → Room k (A.deeper (envOfC qual (defScope st) s.heap.objs.size f cdv)) →
      PSs (cxOf (L2.CX P w) P w K mg base N qual (defScope st) f cdv A outer s H E) (defBody st) (tS ⟨S, pen, G0, B, fun c d _ H' => E c d H'⟩ body)) :
    FnG P w K mg base (k + 1) f fd ("self" :: ps) (spO S c (inM c ps.length N.length (S.nm c).length body)) := by
  have hN' := Nat.le_of_ble_eq_true hN
  refine fn_okR F Sc (fun vs H Q E h => ?_) fun cdv A outer s H vs Q E hcv hg hr h => ?_
  · obtain ⟨pen, G, p, a, dx, ws, ds, rfl, _, _, _, _, r, h⟩ := h
    dsimp only [inM] at h
    split at h
    · rename_i hl
      simp [r.length, hl]
    · exact h.elim
  · obtain ⟨pen, G, p, a, dx, ws, ds, rfl, ha, hga, hap, wd, r, h⟩ := h
    refine ⟨_, hb cdv A outer s pen G (mkH H a dx) H E hg hr, ?_⟩
    dsimp only [inM] at h
    split at h
    · rename_i hl
      have x0 : Ex pen G (mkH H a dx) G H := ⟨Sub.refl _, fun b o _ nt e => (mkH_some e nt).1, fun b e => none_mkH e (fun z => by rw [z, ha] at e; cases e), fun _ e _ => e⟩
      refine ⟨G, p, dsI c N.length ds, wd, x0, SlR.startO (x := x) r (show N.length = 1 + (ws.length + (N.length - 1 - ws.length)) by have := r.length; omega) ha hga hap mkH_same, ?_⟩
      rcases he : body (dsI c N.length ds) p with _ | ⟨o, p1⟩
      · rw [he] at h; exact h.elim
      · rw [he] at h
        cases o with
        | nx δ' =>
          intro σ' G' H' sb w' x' sl'
          dsimp only [inOf] at h
          split at h
          · rename_i c' xs e0
            split at h
            · rename_i hc
              obtain ⟨hc1, hc2⟩ := hc
              subst hc1
              obtain ⟨l, dx', vs, e1, e2, rv, hle, g1, g2, g3⟩ := sl'.mo 0 _ _ e0
              obtain ⟨rfl, rfl⟩ := mkH_mark g3
              refine h vs G' H' x' w' ?_ ?_ rv g1
              · rw [hc2, List.take_length] at e2; exact e2
              · rw [rv.length, hc2]
            · exact h.elim
          · exact h.elim
        | rt d => exact h.elim
        | bk δ' => exact h.elim
        | ct δ' => exact h.elim
        | er k fs δ' => exact fun d σ' G' H' _ w' x' sl' r' => h d G' H' x' w' r'
    · exact h.elim
/-! ### self.f = e -/
def sPut (i c k : Nat) (e : EX) : SX := fun δ p => match (δ[i]? : Option (Option Sl)) with
  | some (some (Sl.mo c' xs)) => if c' = c ∧ xs.length = k then sBnd e (fun d δ p => some (.nx (δ.set i (some (.mo c (xs ++ [d])))), p)) δ p else none
  | _ => none
/-- what a class of plain objects must have -/
def putB (K : PySem.W.Frag) (S : Sg) (c k : Nat) (f : Str) : Bool := clsB K (S.ca c) && (PySem.W.findIn K (.ref (S.ca c)) f == some none) && ((S.nm c)[k]? == some f) && nodB (S.nm c) && decide (k < 900)
theorem putF_new {f : Str} {y : V} : ∀ {l : List (Str × V)}, f ∉ l.map (·.1) → putF f y l = l ++ [(f, y)]
  | [], _ => rfl
  | (g, x) :: r, h => by
    simp only [List.map_cons, List.mem_cons, not_or] at h
    unfold putF
    rw [if_neg (Ne.symm h.1), putF_new h.2]
    rfl
theorem zip_put {f : Str} {y : V} {nm : List Str} {vs : List V} {k : Nat} (nd : nm.Nodup) (hk : nm[k]? = some f) (hl : vs.length = k) : putF f y ((nm.take k).zip vs) = (nm.take (k + 1)).zip (vs ++ [y]) := by
  have hlt : k < nm.length := (List.getElem?_eq_some_iff.mp hk).1
  have e1 : nm.take (k + 1) = nm.take k ++ [f] := by rw [List.take_succ, hk]; rfl
  have hkeys : ((nm.take k).zip vs).map (·.1) = nm.take k := zip_keys (by rw [List.length_take, hl]; omega)
  have hnot : f ∉ nm.take k := fun z => by
    have nd' : (nm.take (k + 1)).Nodup := List.Nodup.sublist (List.take_sublist _ _) nd
    rw [e1, List.nodup_append] at nd'
    exact nd'.2.2 f z f (by simp) rfl
  rw [putF_new (by rw [hkeys]; exact hnot), e1, List.zip_append (by rw [List.length_take, hl]; omega)]
  rfl
section
variable {X : Cx} {m : Am} {pos : Pos} {i : Nat} {x : Str} {j : Nat}
theorem SlR.setMo {S : Sg} {pen : Addr} {B G H : Hp} {σ : L2.St} {δ : DS} {l dx : Addr} {c : Nat} {vs : List V} {xs : List D} (sl : SlR S pen B G H σ δ) (h : H l = some (.ins (S.ca c) dx (((S.nm c).take xs.length).zip vs))) (r : Reps S G pen vs xs) (hx : xs.length ≤ (S.nm c).length) (hg : G l = none) (hp : l ≠ pen) (hb : B l = some (.tbl #[.ref dx]))
    (ne : ∀ (j : Nat) s, j ≠ i → δ[j]? = some (some s) → (∀ x, s ≠ .d x) → σ[j]? ≠ some (some (.ref l))) : SlR S pen B G H (σ.set i (some (.ref l))) (δ.set i (some (.mo c xs))) := by
  have same : ∀ (j : Nat), j ≠ i → (σ.set i (some (V.ref l)))[j]? = σ[j]? := fun j hj => List.getElem?_set_ne (Ne.symm hj)
  refine ⟨by simp [sl.len], fun j x e => ?_, fun j ys e => ?_, fun j ys e => ?_, fun j c ys e => ?_, fun j k s t a e1 e2 n1 n2 f1 f2 => ?_⟩
  · rcases set_old e with ⟨_, z, _⟩ | ⟨hj, e'⟩
    · cases z
    · rw [same j hj]; exact sl.val j x e'
  · rcases set_old e with ⟨_, z, _⟩ | ⟨hj, e'⟩
    · cases z
    · rw [same j hj]; exact sl.ml j ys e'
  · rcases set_old e with ⟨_, z, _⟩ | ⟨hj, e'⟩
    · cases z
    · rw [same j hj]; exact sl.md j ys e'
  · rcases set_old e with ⟨hj, z, hl⟩ | ⟨hj, e'⟩
    · cases z
      subst hj
      exact ⟨l, dx, vs, by rw [List.getElem?_set_self (by rw [sl.len]; exact hl)], h, r, hx, hg, hp, hb⟩
    · rw [same j hj]; exact sl.mo j c ys e'
  · rcases set_old e1 with ⟨hj, z, hl⟩ | ⟨hj, e1'⟩
    · rcases set_old e2 with ⟨hk, _, _⟩ | ⟨hk, e2'⟩
      · rw [hj, hk]
      · rw [hj, List.getElem?_set_self (by rw [sl.len]; exact hl)] at f1
        cases f1
        rw [same k hk] at f2
        exact absurd f2 (ne k t hk e2' n2)
    · rcases set_old e2 with ⟨hk, z, hl⟩ | ⟨hk, e2'⟩
      · rw [hk, List.getElem?_set_self (by rw [sl.len]; exact hl)] at f2
        cases f2
        rw [same j hj] at f1
        exact absurd f1 (ne j s hj e1' n1)
      · rw [same j hj] at f1
        rw [same k hk] at f2
        exact sl.inj j k s t a e1' e2' n1 n2 f1 f2
theorem ins_code {C dx : Addr} {fs : List (Str × V)} (c : Addr) (q : Str) : HO.ins C dx fs ≠ LamX.CodeO c q := by intro z; cases z
theorem ms_put {c k : Nat} {f : Str} {e : Expr} {ea : EX} {p1 p2 : Pos} (B : Bx X m j) (hv : varB X.N X.env.scope i x = true) (hf : putB m.S.K m.S c k f = true) (he : PE X e (tE m ea)) (hs : swapsWith e (some (.Attribute (.Name x p1) f p2)) pos.line X.env = pure false := by rfl) :
    PS X (.Assign [.Attribute (.Name x p1) f p2] e pos) (tS m (sPut i c k ea)) := by
  unfold varB at hv
  simp only [Bool.and_eq_true] at hv
  have q := nmB_of hv.2
  unfold putB at hf
  simp only [Bool.and_eq_true, beq_iff_eq, decide_eq_true_eq] at hf
  obtain ⟨⟨⟨⟨f1, f2⟩, f3⟩, f4⟩, f5⟩ := hf
  refine PS.imp (ps_fld (pe_var (ixB_of hv.1.1) (visB_of hv.1.2) q.1 q.2.1) he hs) fun K σ H h => ?_
  obtain ⟨G, p, δ, w, x, sl, h⟩ := h
  dsimp only [sPut] at h
  split at h
  · rename_i c' xs ei
    split at h
    · rename_i hc
      obtain ⟨hc1, hc2⟩ := hc
      subst hc1
      obtain ⟨l, dx, vs, e1, e2, r, hle, e4, e6, e5⟩ := sl.mo i _ xs ei
      refine (tS_step (R := m.rE) w x sl h).imp fun v H1 ⟨d, G1, p1, w1, x1, rv, q⟩ => ?_
      have hl : H1 l = some _ := x1.keep l _ e6 (by intro _ z; cases z) e2
      have gl : G1 l = none := x1.un l e4 (by rw [e2]; simp)
      have r1 := r.mono x1.sub
      have lv : vs.length = k := by rw [r.length]; exact hc2
      refine ⟨.ref l, e1, l, _, dx, _, rfl, hl, by rw [B.hK]; exact clsB_of f1, by rw [B.hK]; exact f2, by rw [List.length_zip, lv]; omega, ?_⟩
      rw [hc2, zip_put (nodB_of f4) f3 lv]
      have w2 : Wd m.S m.pen G1 (upd H1 l (.ins (m.S.ca c') dx (((m.S.nm c').take (k + 1)).zip (vs ++ [v])))) p1 := w1.writeM hl (by intro _ z; cases z) (fun c q => ins_code c q) gl e6
      have x02 : Ex m.pen m.G0 m.B G1 (upd H1 l (.ins (m.S.ca c') dx (((m.S.nm c').take (k + 1)).zip (vs ++ [v])))) := by
        have x01 := x.trans x1
        refine ⟨x01.sub, fun b o hb ht e => ?_, fun b e => ?_, x01.un⟩
        · have : b ≠ l := fun z => by rw [z, e5] at e; cases e; exact ht _ rfl
          rw [upd_ne this]; exact x01.keep b o hb ht e
        · by_cases z : b = l
          · rw [z, upd_same] at e; cases e
          · rw [upd_ne z] at e; exact x01.dom b e
      have s1 := sl.ex x1
      have hlt : k < (m.S.nm c').length := (List.getElem?_eq_some_iff.mp f3).1
      have s2 := (s1.other (o := .ins (m.S.ca c') dx (((m.S.nm c').take (k + 1)).zip (vs ++ [v]))) ei (by intro _ z; cases z) e1).setMo (i := i) (l := l) (dx := dx) (c := c') (vs := vs ++ [v]) (xs := xs ++ [d]) (by rw [upd_same, List.length_append, hc2]; rfl) (r1.append (.cons rv .nil)) (by rw [List.length_append, hc2]; exact hlt) gl e6 e5 fun j s hj e n z => by
        rcases set_old e with ⟨_, q, _⟩ | ⟨hj', e'⟩
        · cases q
        · exact hj (s1.inj j i s _ l e' ei n (by intro _ z; cases z) z e1)
      rw [set_same, set_id e1] at s2
      exact q σ G1 _ (Sub.refl _) w2 x02 s2
    · exact h.elim
  · exact h.elim
end
end ME

/-! C(..): an own class called. -/
namespace ME
open PySem PySem.Spec PyProof.Rows L2

def mNew (c : Nat) (f : List D → M (List D)) (n k : Nat) (dd : List D) (l : List Src) (a b : AX) : EX := fun δ => (a δ).bnd fun x => (b δ).bnd fun y => if x.length = n ∧ y.length = k then (f (pick x dd y l)).bnd fun fs => M.ret (.obj c fs) else M.stuck
/-- the class number c of the name x, called with n values and the keywords ks -/
def NewT (P : Program) (w : World) (K : PySem.W.Frag) (mg : Str → Option Value) (base : Heap) (S : Sg) (k c : Nat) (x : Str) (n : Nat) (ks : List Str) (dd : List D) (l : List Src) (f : List D → M (List D)) : Prop :=
  ∃ fI fd ps dvs, Mk K (S.ca c) fI ∧ FnG P w K mg base k fI fd ("self" :: ps) (spO S c f) ∧ mg x = some (.ref (S.ca c)) ∧ Bd K fd ("self" :: ps) (n + 1) ks dvs (.p 0 :: l.map Src.up) ∧ ∀ G pen, Reps S G pen dvs dd
section
variable {X : Cx} {m : Am} {j k n c : Nat} {es : List Expr} {kws : List Keyword} {ks : List Str} {ra rk : AX} {pos p : Pos} {x : Str} {dd : List D} {l : List Src}
theorem guards_make {A : Around} {C : Addr} {us : List Value} {kw : List (Str × Value)} (h : A.guards = some []) : (A.under (.builtin "type.__call__" ⟨.ref C :: us, kw⟩)).guards = some [] := by
  simp only [Around.under, h]
  rfl
theorem new_run {mf : List D → M (List D)} {pins : List (Addr × Obj)} {s : Shared} {σ : L2.St} {H : Hp} {Q : VK} (B : Bx X m j) (T : NewT X.prog X.w X.K X.mg X.base m.S k c x n ks dd l mf) (hk : Nat.ble (k + 1) j = true) (ha : PAK X es kws n ks (tAK m n ks.length ra rk))
    (I : Inv X pins σ H s) (h : tE m (mNew c mf n ks.length dd l ra rk) σ H Q) : wpAny (model X.prog X.w) X.A (callWith pos (.ref (m.S.ca c)) [] (backTo pos (starEach es X.env)) (backToKw pos (keywordEach kws X.env))) (EP X pins σ Q) X.xe s := by
  obtain ⟨fI, fd, ps, dvs, MK, F, hm, hb, hdd⟩ := T
  refine ha.run pos (.ref (m.S.ca c)) [] pins s σ H _ _ MK.kp I (tAK_gen h) fun us ws s2 vs zs H2 I2 r rz l1 l2 ⟨G, p, δ, ds, es, w, sl, r1, r2, h5⟩ => ?_
  show wpAny _ _ (call (.ref (m.S.ca c)) us (ks.zip ws)) _ _ _
  obtain ⟨its, vd, bd⟩ := hb.ex
  have hr := B.hr.mono (Nat.le_of_ble_eq_true hk)
  have I3 := Inv.made (C := m.S.ca c) I2
  obtain ⟨a, ea⟩ : ∃ a, a = s2.heap.objs.size + 1 := ⟨_, rfl⟩
  obtain ⟨dx, ed⟩ : ∃ dx, dx = s2.heap.objs.size := ⟨_, rfl⟩
  have na : H2 a = none := by rw [ea]; exact I2.hok.fresh (Nat.le_succ _)
  have nd : H2 dx = none := by rw [ed]; exact I2.hok.fresh (Nat.le_refl _)
  have hne : dx ≠ a := by rw [ea, ed]; exact Nat.ne_of_lt (Nat.lt_succ_self _)
  rw [← ea, ← ed] at I3
  have nda : upd H2 dx (.own a) a = none := by rw [upd_ne (Ne.symm hne)]; exact na
  have w1 : Wd m.S m.pen G (upd H2 dx (.own a)) p := w.allocM nd
  have w2 : Wd m.S m.pen G (upd (upd H2 dx (.own a)) a (.ins (m.S.ca c) dx [])) p := w1.allocM nda
  have rp := reps_pick r1 (hdd G m.pen) r2 l
  have e1 : pick (V.ref a :: vs) dvs zs (.p 0 :: l.map Src.up) = V.ref a :: pick vs dvs zs l := pick_self _ _ _ _ _
  have e2 : pick (Value.ref a :: us) its ws (.p 0 :: l.map Src.up) = Value.ref a :: pick us its ws l := pick_self _ _ _ _ _
  have sp : spO m.S c mf (V.ref a :: pick vs dvs zs l) (upd (upd H2 dx (.own a)) a (.ins (m.S.ca c) dx [])) (fun v H3 => v = .non ∧ Q (.ref a) H3) (WE m.W σ) := by
    refine ⟨m.pen, G, p, a, dx, _, pick ds dd es l, rfl, upd_same, w1.gfree nda, w1.ne nda, w2, rp, ?_⟩
    dsimp only [M.bnd] at h5
    rcases he : mf (pick ds dd es l) p with _ | ⟨o, p1⟩
    · rw [he] at h5; exact h5
    · rw [he] at h5
      have x1 : Ex m.pen G H2 G (upd H2 dx (.own a)) := Ex.allocM nd
      have lift : ∀ {G' H' : Hp}, Ex m.pen G (mkH (upd (upd H2 dx (.own a)) a (.ins (m.S.ca c) dx [])) a dx) G' H' → (∀ b, b ≠ m.pen → b ≠ a → (∀ o, upd H2 dx (.own a) b = some o → (∀ x, o ≠ .tbl x) → H' b = some o)) ∧ (∀ b, H' b = none → H2 b = none) ∧ (∀ b, G b = none → H2 b ≠ none → G' b = none) := fun {G' H'} x' => by
        refine ⟨fun b hb hba o e nt => x'.keep b o hb nt (some_mkH (by rw [upd_ne hba]; exact e) nt hba), fun b e => ?_, fun b e n => x'.un b e fun z => ?_⟩
        · have z := mkH_none (x'.dom b e)
          rw [upd_ne z.2] at z
          by_cases q : b = dx
          · rw [q, upd_same] at z; cases z.1
          · rw [upd_ne q] at z; exact z.1
        · have z := mkH_none z
          rw [upd_ne z.2] at z
          by_cases q : b = dx
          · rw [q, upd_same] at z; cases z.1
          · rw [upd_ne q] at z; exact n z.1
      have full : ∀ {G' H' : Hp}, Ex m.pen G (mkH (upd (upd H2 dx (.own a)) a (.ins (m.S.ca c) dx [])) a dx) G' H' → Ex m.pen G H2 G' H' := fun {G' H'} x' => by
        obtain ⟨k1, k2, k3⟩ := lift x'
        refine ⟨x'.sub, fun b o hb nt e => ?_, k2, k3⟩
        have hba : b ≠ a := fun z => by rw [z, na] at e; cases e
        have hbd : b ≠ dx := fun z => by rw [z, nd] at e; cases e
        exact k1 b hb hba o (by rw [upd_ne hbd]; exact e) nt
      cases o with
      | ex k fs => exact fun d G' H' x' w' rx => h5 d G' H' (full x') w' rx
      | ok fs =>
        intro vs' G' H' x' w' ha' hl' r' g'
        refine ⟨rfl, ?_⟩
        have fx := full x'
        have nap : a ≠ m.pen := w1.ne nda
        refine h5 (.ref a) (upd G' a (.ins (m.S.ca c) dx ((m.S.nm c).zip vs'))) H' ⟨fx.sub.trans (Sub.alloc g'), fx.keep, fx.dom, fun b e n => ?_⟩ (w'.freeze ha' g' nap) (.obj upd_same hl' (r'.mono (Sub.alloc g')))
        have : b ≠ a := fun z => n (by rw [z]; exact na)
        rw [upd_ne this]; exact fx.un b e n
  have bt := bd { s2 with heap := (s2.heap.push PySem.W.emptyDict).push (PySem.W.instObj (m.S.ca c) dx) } (Value.ref a :: us) ws I3.kIn (by rw [List.length_cons, l1]) l2
  rw [e2] at bt
  have rv : Vals (V.ref a :: pick vs dvs zs l) (Value.ref a :: pick us its ws l) := .cons rfl (vals_pick r vd rz l)
  refine wpAny_call (make_map (f := fI) I2.kIn MK.makes MK.init (beq_iff_eq.mp MK.fn) ?_)
  rw [← ea, ← ed]
  refine codeAny_mono (F.run _ X.stack _ _ ⟨Value.ref a :: us, ks.zip ws⟩ (Value.ref a :: pick us its ws l) _ _ (WE m.W σ) (guards_make B.hq) (hr.make _ us (ks.zip ws)) (I3.env0.make _ us (ks.zip ws)) bt rv sp) fun r s' hq' => ?_
  cases r with
  | error e => exact passAt B.tk σ pins _ _ e s' I3 hq'
  | ok fl =>
    cases fl with
    | ret u =>
      obtain ⟨v, H', I4, rv', ev, q3⟩ := I3.after hq'
      subst ev
      exact ⟨rv', ⟨V.ref a, H', I4, rfl, q3⟩⟩
    | next => exact False.elim hq'
    | brk => exact False.elim hq'
    | cont => exact False.elim hq'
theorem me_new {mf : List D → M (List D)} (B : Bx X m j) (T : NewT X.prog X.w X.K X.mg X.base m.S k c x n ks dd l mf) (hk : Nat.ble (k + 1) j = true) (hg : gloB X.env.scope x = true) (hx : nmB x = true) (ha : PAK X es kws n ks (tAK m n ks.length ra rk)) :
    PE X (.Call (.Name x p) es kws pos) (tE m (mNew c mf n ks.length dd l ra rk)) := by
  refine ⟨fun pins s σ H Q I h => ?_⟩
  have hm : X.mg x = some (.ref (m.S.ca c)) := by
    obtain ⟨fI, fd, ps, dvs, MK, F, hm, hb, hdd⟩ := T
    exact hm
  exact wpAny_Call_Name_kw (ld_glob I (gl_of hg) hm (new_run B T hk ha I h) (nmB_of hx).1)
/-- x(..), x a local name that holds the class number c -/
def mNewV (i c : Nat) (e : EX) : EX := fun δ p => match (δ[i]? : Option (Option Sl)) with
  | some (some (Sl.d (.cls c'))) => if c' = c then e δ p else none
  | _ => none
theorem me_newV {mf : List D → M (List D)} {i : Nat} {y : Str} (B : Bx X m j) (T : NewT X.prog X.w X.K X.mg X.base m.S k c x n ks dd l mf) (hk : Nat.ble (k + 1) j = true) (hv : varB X.N X.env.scope i y = true) (ha : PAK X es kws n ks (tAK m n ks.length ra rk)) :
    PE X (.Call (.Name y p) es kws pos) (tE m (mNewV i c (mNew c mf n ks.length dd l ra rk))) := by
  unfold varB at hv
  simp only [Bool.and_eq_true] at hv
  have q := nmB_of hv.2
  refine ⟨fun pins s σ H Q I h => ?_⟩
  obtain ⟨G, pn, δ, u, w, sl, _, h5⟩ := h
  dsimp only [mNewV] at h5
  split at h5
  · rename_i c' e
    split at h5
    · rename_i hc
      subst hc
      obtain ⟨v, e1, r⟩ := sl.val i _ e
      cases r
      refine wpAny_Call_Name_kw (thn ((pe_var (pos := p) (ixB_of hv.1.1) (visB_of hv.1.2) q.1 q.2.1).run pins s σ H (fun v H1 => v = .ref (m.S.ca c') ∧ H1 = H) I ⟨_, e1, rfl, rfl⟩) fun z s1 ⟨v, H1, I1, r1, q1, q2⟩ => ?_)
      subst q1 q2
      obtain rfl : z = Value.ref (m.S.ca c') := r1
      exact new_run B T hk ha I1 ⟨G, pn, δ, (), w, sl, trivial, h5⟩
    · exact h5.elim
  · exact h5.elim
end
end ME

/-! o.m(..), constants of a class. -/
namespace ME
open PySem PySem.Spec PyProof.Rows L2

section
variable {X : Cx} {m : Am} {j k n c : Nat} {o : Expr} {es : List Expr} {kws : List Keyword} {ks : List Str} {ra rk : AX} {pos apos : Pos} {x : Str} {eo : EX}
theorem tAK_genR {α0 β0 α β : Type} {R0 : Rl β0 α0} {R : Rl β α} {b : β0} {j : Nat} {g : α0 → List D → List D → M α} {σ : L2.St} {H : Hp} {Q : β → Hp → Prop} (hm : R0.Mono) (h : tY m R0 R b (fun a0 δ => (ra δ).bnd fun x => (rk δ).bnd fun y => if x.length = n ∧ y.length = j then g a0 x y else M.stuck) σ H Q) :
    tAK m n j ra rk σ H (fun vs zs H1 => ∃ G p δ a0 ds es, Wd m.S m.pen G H1 p ∧ SlR m.S m.pen m.B G H1 σ δ ∧ R0 G b a0 ∧ Reps m.S G m.pen vs ds ∧ Reps m.S G m.pen zs es ∧ Post m.S m.pen R G H1 Q (fun c d H' => m.W c d σ H') (g a0 ds es p)) := by
  have h' : tY m R0 R b (fun a0 δ => ((ra δ).bnd fun x => (rk δ).bnd fun y => if x.length = n ∧ y.length = j then M.ret (x, y) else M.stuck).bnd fun z => g a0 z.1 z.2) σ H Q := by
    obtain ⟨G, p, δ, u, w, sl, r, h⟩ := h
    refine ⟨G, p, δ, u, w, sl, r, ?_⟩
    have e : (((ra δ).bnd fun x => (rk δ).bnd fun y => if x.length = n ∧ y.length = j then M.ret (x, y) else M.stuck).bnd fun z => g u z.1 z.2) = (ra δ).bnd fun x => (rk δ).bnd fun y => if x.length = n ∧ y.length = j then g u x y else M.stuck := by
      rw [M.assoc]
      congr 1; funext x
      rw [M.assoc]
      congr 1; funext y
      split <;> rfl
    dsimp only at h ⊢
    rw [e]; exact h
  refine (tY_bind (R1 := rP m.rA m.rA) hm h').imp fun v H1 h2 => ?_
  obtain ⟨G, p, δ, ⟨a0, ds, es⟩, w, sl, ⟨r0, r1, r2⟩, h5⟩ := h2
  exact ⟨G, p, δ, a0, ds, es, w, sl, r0, r1, r2, h5⟩
/-- what a call of the method does, by the receiver's class -/
abbrev MTab := List (Nat × (List D × List Src × (List D → M D)))
def mMth (tbl : MTab) (n k : Nat) (eo : EX) (a b : AX) : EX := fun δ => (eo δ).bnd fun d => match d with
  | .obj c fs => match tbl.lookup c with
    | some q => (a δ).bnd fun x => (b δ).bnd fun y => if x.length = n ∧ y.length = k then q.2.2 (.obj c fs :: pick x q.1 y q.2.1) else M.stuck
    | none => M.stuck
  | _ => M.stuck
def MthT (P : Program) (w : World) (K : PySem.W.Frag) (mg : Str → Option Value) (base : Heap) (S : Sg) (k c : Nat) (x : Str) (n : Nat) (ks : List Str) (q : List D × List Src × (List D → M D)) : Prop :=
  ∃ f fd ps dvs, FnG P w K mg base k f fd ps (spM S q.2.2) ∧ Meth K (S.ca c) x f ∧ Cls K (S.ca c) ∧ (S.nm c).contains x = false ∧ Bd K fd ps (n + 1) ks dvs (.p 0 :: q.2.1.map Src.up) ∧ ∀ G pen, Reps S G pen dvs q.1
theorem zip_none {α β : Type} [BEq α] [LawfulBEq α] {k : α} : ∀ {a : List α} {b : List β}, a.contains k = false → (a.zip b).lookup k = none
  | [], _, _ => by simp
  | _ :: _, [], _ => by simp
  | x :: a, y :: b, h => by
    simp only [List.contains_cons, Bool.or_eq_false_iff] at h
    rw [List.zip_cons_cons, List.lookup_cons, h.1]
    exact zip_none h.2
theorem me_mth {tbl : MTab} {pl : Sem Bool} (B : Bx X m j) (T : ∀ c q, tbl.lookup c = some q → MthT X.prog X.w X.K X.mg X.base m.S k c x n ks q) (hk : Nat.ble k j = true) (he : PE X o (tE m eo)) (ha : PAK X es kws n ks (tAK m n ks.length ra rk))
    (ht : eval (.Call (.Attribute o x apos) es kws pos) X.env = (do
      let ov ← eval o X.env
      standAt apos.atName
      let (f, first) ← holding [ov] (getMethod ov x pl)
      callWith pos f first (backTo pos (starEach es X.env)) (backToKw pos (keywordEach kws X.env))) := by rfl) :
    PE X (.Call (.Attribute o x apos) es kws pos) (tE m (mMth tbl n ks.length eo ra rk)) := by
  refine ⟨fun pins s σ H Q I h => ?_⟩
  refine PySem.W.methodCall_KW (pl := pl) (thn (he.run pins s σ H _ I (tY_bind (R1 := m.rE) r0_mono h)) fun u s1 ⟨v, H1, I1, rx, h2⟩ => ?_) ht
  obtain ⟨G, p, δ, ⟨_, d⟩, w, sl, ⟨_, r⟩, h3⟩ := h2
  have r : Rep m.S G m.pen v d := r
  cases r with
  | @obj a dx c vs ds ha' hl rr =>
    dsimp only at h3
    cases e : tbl.lookup c with
    | none => rw [e] at h3; exact h3.elim
    | some q =>
      rw [e] at h3
      obtain ⟨f, fd, ps, dvs, F, hm, hc, hno, hb, hdd⟩ := T c q e
      obtain rfl : u = Value.ref a := rx
      have hc' : Cls X.K (m.S.ca c) := hc
      refine getmeth_ok I1 (w.sub _ _ ha') hc' hm (zip_none hno) ?_
      have h4 : tY m (fun G (b : Unit) (a0 : Unit) => Rep m.S G m.pen (.ref a) (.obj c ds)) m.rE () (fun _ δ => (ra δ).bnd fun x => (rk δ).bnd fun y => if x.length = n ∧ y.length = ks.length then q.2.2 (.obj c ds :: pick x q.1 y q.2.1) else M.stuck) σ H1 Q := ⟨G, p, δ, (), w, sl, .obj ha' hl rr, h3⟩
      refine ha.run pos (.ref f) [.ref a] pins s1 σ H1 _ _ hm.kp I1 (tAK_genR (fun G G' _ _ s h => Rep.mono s h) h4) fun us ws s2 vs' zs H2 I2 r' rz l1 l2 ⟨G2, p2, δ2, _, ds', es', w2, sl2, r0, r1, r2, h5⟩ => ?_
      obtain ⟨its, vd, bd⟩ := hb.ex
      have e1 : pick (V.ref a :: vs') dvs zs (.p 0 :: q.2.1.map Src.up) = V.ref a :: pick vs' dvs zs q.2.1 := pick_self _ _ _ _ _
      have e2 : pick (Value.ref a :: us) its ws (.p 0 :: q.2.1.map Src.up) = Value.ref a :: pick us its ws q.2.1 := pick_self _ _ _ _ _
      have bt := bd s2 (Value.ref a :: us) ws I2.kIn (by rw [List.length_cons, l1]) l2
      rw [e2] at bt
      have sp : spM m.S q.2.2 (V.ref a :: pick vs' dvs zs q.2.1) H2 Q (WE m.W σ) := ⟨m.pen, G2, p2, _, w2, .cons r0 (reps_pick r1 (hdd G2 m.pen) r2 q.2.1), h5⟩
      refine wpAny_call (codeAny_mono ((F.mono (Nat.le_of_ble_eq_true hk)).run X.A X.stack s2 H2 ⟨Value.ref a :: us, ks.zip ws⟩ (Value.ref a :: pick us its ws q.2.1) (V.ref a :: pick vs' dvs zs q.2.1) Q (WE m.W σ) B.hq B.hr I2.env0 bt (.cons rfl (vals_pick r' vd rz q.2.1)) sp) fun r s' hq => ?_)
      cases r with
      | error e => exact passAt B.tk σ pins H2 s2 e s' I2 hq
      | ok fl =>
        cases fl with
        | ret u => exact I2.after hq
        | next => exact False.elim hq
        | brk => exact False.elim hq
        | cont => exact False.elim hq
  | _ => exact h3.elim
/-! ### a constant of the class: of an instance, of the instance that is being made, of the class itself -/
/-- o.f by o's class -/
def mCon (tbl : List (Nat × Cn)) (eo : EX) : EX := fun δ => (eo δ).bnd fun d => match d with
  | .obj c _ => match tbl.lookup c with
    | some z => M.ret z.d
    | none => M.stuck
  | _ => M.stuck
def mConS (i c : Nat) (z : Cn) : EX := fun δ p => match (δ[i]? : Option (Option Sl)) with
  | some (some (Sl.mo c' _)) => if c' = c then some (.ok z.d, p) else none
  | _ => none
def conB (K : PySem.W.Frag) (S : Sg) (c : Nat) (f : Str) (z : Cn) : Bool := clsB K (S.ca c) && !(S.nm c).contains f && !PySem.W.copiedNames.contains f && (match PySem.W.findIn K (.ref (S.ca c)) f with
  | some (some u) => cnIs z u && (PySem.W.specialIn K u "__get__" == some none)
  | _ => false)
def Cn.v : Cn → V
  | .i z => .int z
  | .s z => .str z
theorem cn_rel {z : Cn} {u : Value} (h : cnIs z u = true) : RelV z.v u := by
  cases z with
  | i z => cases u with
    | int y t => have : z = y := beq_iff_eq.mp h; subst this; exact ⟨t, rfl⟩
    | _ => cases h
  | s z => cases u with
    | str y t => have : z = y := beq_iff_eq.mp h; subst this; exact ⟨t, rfl⟩
    | _ => cases h
theorem cn_rep {S : Sg} {G : Hp} {pen : Addr} (z : Cn) : Rep S G pen z.v z.d := by
  cases z with
  | i z => exact .int z
  | s z => exact .str z
theorem con_of {K : PySem.W.Frag} {S : Sg} {c : Nat} {f : Str} {z : Cn} (h : conB K S c f z = true) : Cls K (S.ca c) ∧ (S.nm c).contains f = false ∧ ∃ u, Con K (S.ca c) f z.v u := by
  unfold conB at h
  simp only [Bool.and_eq_true, Bool.not_eq_true'] at h
  obtain ⟨⟨⟨h1, h2⟩, h3⟩, h4⟩ := h
  split at h4
  · rename_i u hu
    simp only [Bool.and_eq_true, beq_iff_eq] at h4
    exact ⟨clsB_of h1, h2, u, hu, cn_rel h4.1, h4.2, h3⟩
  · cases h4
theorem me_con {f : Str} {tbl : List (Nat × Cn)} {a : Expr} {ea : EX} (B : Bx X m j) (T : (tbl.all fun q => conB m.S.K m.S q.1 f q.2) = true) (he : PE X a (tE m ea)) (hb : attributeBase a f X.env (eval a X.env) = eval a X.env := by rfl) : PE X (.Attribute a f pos) (tE m (mCon tbl ea)) := by
  refine PE.imp (pe_con he hb) fun σ H Q h => ?_
  refine (tY_bind (R1 := m.rE) r0_mono h).imp fun x H1 h2 => ?_
  obtain ⟨G, p, δ, ⟨_, d⟩, w, sl, ⟨_, r⟩, h3⟩ := h2
  have r : Rep m.S G m.pen x d := r
  cases r with
  | @obj a dx c vs ds ha hl rr =>
    dsimp only at h3
    cases e : tbl.lookup c with
    | none => rw [e] at h3; exact h3.elim
    | some z =>
      rw [e] at h3
      obtain ⟨h1, h2, u, h4⟩ := con_of (List.all_eq_true.mp T _ (mem_of_lookup e))
      exact ⟨a, _, dx, _, z.v, u, rfl, w.sub _ _ ha, by rw [B.hK]; exact h1, by rw [B.hK]; exact h4, zip_none h2, fin_same w (cn_rep z) h3⟩
  | _ => exact h3.elim
theorem me_conS {f : Str} {i : Nat} {z : Cn} {p1 : Pos} (B : Bx X m j) (hv : varB X.N X.env.scope i x = true) (T : conB m.S.K m.S c f z = true) (hb : attributeBase (.Name x p1) f X.env (eval (.Name x p1) X.env) = eval (.Name x p1) X.env := by rfl) : PE X (.Attribute (.Name x p1) f pos) (tE m (mConS i c z)) := by
  unfold varB at hv
  simp only [Bool.and_eq_true] at hv
  have q := nmB_of hv.2
  refine PE.imp (pe_con (pe_var (ixB_of hv.1.1) (visB_of hv.1.2) q.1 q.2.1) hb) fun σ H Q h => ?_
  obtain ⟨G, p, δ, _, w, sl, _, h3⟩ := h
  dsimp only [mConS] at h3
  split at h3
  · rename_i c' xs e
    split at h3
    · rename_i hc
      subst hc
      obtain ⟨l, dx, vs, e1, e2, r, hle, _⟩ := sl.mo i _ xs e
      obtain ⟨h1, h2, u, h4⟩ := con_of T
      have hno : ((m.S.nm c').take xs.length).contains f = false := by
        have : f ∉ (m.S.nm c') := by simpa using h2
        simpa using fun z => this (List.mem_of_mem_take z)
      exact ⟨.ref l, e1, l, _, dx, _, z.v, u, rfl, e2, by rw [B.hK]; exact h1, by rw [B.hK]; exact h4, zip_none hno, h3 z.v G H Ex.refl w (cn_rep z)⟩
    · exact h3.elim
  · exact h3.elim
end
end ME

/-! Operators by own defs of a class. -/
namespace ME
open PySem PySem.Spec PyProof.Rows L2

section
variable {X : Cx} {m : Am} {j k : Nat}
theorem insInst {pins : List (Addr × Obj)} {s : Shared} {σ : L2.St} {H : Hp} {a C dx : Addr} {fs : List (Str × V)} (I : Inv X pins σ H s) (h : H a = some (.ins C dx fs)) : ∃ od, PySem.W.InstAt s.heap a (PySem.W.instObj C dx) C (some od) := by
  obtain ⟨mA, O, _⟩ := ins_get I.hok h
  obtain ⟨od, ho, _⟩ := lookIn_ns O.ns
  exact ⟨od, O.obj, rfl, rfl, ho⟩
/-- the type of a datum: an own class or a built-in -/
def tbOf (S : Sg) : D → Option Value
  | .obj c _ => some (.ref (S.ca c))
  | d => (tyName d).map .type
theorem looks_tb {pins : List (Addr × Obj)} {s : Shared} {σ : L2.St} {G H : Hp} {p : Pn} {v : V} {u : Value} {d : D} {tb : Value} (hK : X.K = m.S.K) (I : Inv X pins σ H s) (w : Wd m.S m.pen G H p) (r : Rep m.S G m.pen v d) (rv : RelV v u) (e : tbOf m.S d = some tb) : PySem.W.Looks (model X.prog X.w) s.heap (typeOf u) tb := by
  have gen : ∀ a, tyName d = some a → tb = .type a → PySem.W.Looks (model X.prog X.w) s.heap (typeOf u) tb := fun a ha et => by
    subst et
    have t := tyX_of (m := m) w r ha
    rw [← hK] at t
    obtain ⟨P, kx, hp, _⟩ := kit_of I rv t
    exact kx.ty _ _ I.kIn hp
  have rest : (∀ c fs, d ≠ .obj c fs) → PySem.W.Looks (model X.prog X.w) s.heap (typeOf u) tb := fun hn => by
    have e' : (tyName d).map Value.type = some tb := by
      cases d <;> first | exact e | exact absurd rfl (hn _ _)
    cases q : tyName d with
    | none => rw [q] at e'; cases e'
    | some a => rw [q] at e'; cases e'; exact gen a q rfl
  cases r with
  | @obj a dx c vs ds ha hl rr =>
    cases e
    obtain ⟨od, J⟩ := insInst I (w.sub _ _ ha)
    cases (show u = Value.ref a from rv)
    exact J.type
  | _ => exact rest (by intro _ _ z; cases z)
/-! ### x op y, x of an own class -/
/-- the def of the class for the name nm computes mf -/
def OwnT (P : Program) (w : World) (K : PySem.W.Frag) (mg : Str → Option Value) (base : Heap) (S : Sg) (k c : Nat) (nm : Str) (n : Nat) (mf : List D → M D) : Prop :=
  ∃ f fd ps, FnG P w K mg base k f fd ps (spM S mf) ∧ PySem.W.findIn K (.ref (S.ca c)) nm = some (some (.ref f)) ∧ PySem.W.isFn K (.ref f) = true ∧ Bd K fd ps n [] [] ((List.range n).map .p)
def rOwnC (m : Am) (K : PySem.W.Frag) (c : Nat) (mf : List D → M D) : R2 := fun x y H Q => ∃ a dx fs G p ds dy tb, x = .ref a ∧ H a = some (.ins (m.S.ca c) dx fs) ∧ Wd m.S m.pen G H p ∧ Rep m.S G m.pen x (.obj c ds) ∧ Rep m.S G m.pen y dy ∧ tbOf m.S dy = some tb ∧ PySem.W.notFirst K (m.S.ca c) tb = true ∧
  Post m.S m.pen (fun G v d => Rep m.S G m.pen v d) G H Q (fun _ _ _ => False) (mf [.obj c ds, dy] p)
theorem op_ownC {op : CmpOp} {c : Nat} {mf : List D → M D} (hop : ∀ a b, compareOp op a b = richCompare op a b) (B : Bx X m j) (T : OwnT X.prog X.w X.K X.mg X.base m.S k c (cmpInfo op).2.1 2 mf) (hk : Nat.ble k j = true) : OpR X (compareOp op) (rOwnC m X.K c mf) := by
  intro pins s σ H x y v u Q I rx ry h
  obtain ⟨f, fd, ps, F, hs, hf, hb⟩ := T
  obtain ⟨a, dx, fs, G, p, ds, dy, tb, rfl, ha, w, r1, r2, et, hn, h5⟩ := h
  cases (show v = Value.ref a from rx)
  obtain ⟨od, J⟩ := insInst I ha
  obtain ⟨m', hF⟩ := I.fr
  rw [hop]
  refine PySem.W.cmp_K (op := op) (tb := tb) B.hr.units0 hF I.ok.mod.kin J (looks_tb B.hK I w r2 ry et) hn hs hf ?_
  obtain ⟨its, vd, bd⟩ := hb.ex
  cases vd
  have bt := bd s [.ref a, u] [] I.kIn rfl rfl
  have sp : spM m.S mf [.ref a, y] H Q (fun _ _ _ => False) := ⟨m.pen, G, p, _, w, .cons r1 (.cons r2 .nil), h5⟩
  refine wpAny_mono (wpAny_call (codeAny_mono ((F.mono (Nat.le_of_ble_eq_true hk)).run X.A X.stack s H ⟨[.ref a, u], []⟩ [.ref a, u] [.ref a, y] Q (fun _ _ _ => False) B.hq B.hr I.env0 bt (.cons rfl (.cons ry .nil)) sp) (R' := fun r s' => match r with | .ok (.ret v) => EP X pins σ Q v s' | .ok _ => False | .error e => X.xe e s') fun r s' hq => ?_)) (fun w s' z => ?_) fun _ _ x => x
  · cases r with
    | error e => exact B.pf pins σ H s e s' I hq
    | ok fl =>
      cases fl with
      | ret u => exact I.after hq
      | next => exact False.elim hq
      | brk => exact False.elim hq
      | cont => exact False.elim hq
  · obtain ⟨z', H', I', rz, qz⟩ := z
    exact SlX.cmpback rz ⟨z', H', I', rz, qz⟩
abbrev OTab := List (Nat × (List D → M D))
theorem op_ownT {op : CmpOp} {tbl : OTab} (hop : ∀ a b, compareOp op a b = richCompare op a b) (B : Bx X m j) (T : ∀ c mf, tbl.lookup c = some mf → OwnT X.prog X.w X.K X.mg X.base m.S k c (cmpInfo op).2.1 2 mf) (hk : Nat.ble k j = true) : OpR X (compareOp op) (fun x y H Q => ∃ c mf, tbl.lookup c = some mf ∧ rOwnC m X.K c mf x y H Q) := by
  intro pins s σ H x y v u Q I rx ry h
  obtain ⟨c, mf, e, h⟩ := h
  exact op_ownC hop B (T c mf e) hk pins s σ H x y v u Q I rx ry h
/-- x op y by the class of x; os: the classes that y may have -/
def dOwnC (tbl : OTab) (os : List Nat) (o : D → D → M D) : D → D → M D
  | .obj c fs, y => match tbl.lookup c with
    | some mf => match y with
      | .obj c' gs => if os.contains c' then (mf [.obj c fs, .obj c' gs]).calm else M.stuck
      | y => match tyName y with
        | some _ => (mf [.obj c fs, y]).calm
        | none => M.stuck
    | none => M.stuck
  | x, y => o x y
def nfB (K : PySem.W.Frag) (S : Sg) (cs os : List Nat) : Bool := cs.all fun c => (tyNames.all fun a => PySem.W.notFirst K (S.ca c) (.type a)) && os.all fun c' => PySem.W.notFirst K (S.ca c) (.ref (S.ca c'))
theorem post_calm {α β : Type} {S : Sg} {pen : Addr} {R : Rl β α} {G H : Hp} {Q : β → Hp → Prop} {E E' : XK} {f : M α} {p : Pn} (h : Post S pen R G H Q E (f.calm p)) : Post S pen R G H Q E' (f p) := by
  unfold M.calm at h
  rcases e : f p with _ | ⟨o, p1⟩
  · rw [e] at h; exact h
  · rw [e] at h
    cases o with
    | ok a => exact h
    | ex c fs => exact h.elim
theorem r_ownC {tbl : OTab} {cs os : List Nat} {o : D → D → M D} {r : R2} (hK : X.K = m.S.K) (hr : R2Ok m r o) (hcs : cs = tbl.map (·.1)) (nf : nfB m.S.K m.S cs os = true) : R2Ok m (fun x y H Q => r x y H Q ∨ ∃ c mf, tbl.lookup c = some mf ∧ rOwnC m X.K c mf x y H Q) (dOwnC tbl os o) := by
  rintro σ x y H Q ⟨G, p, δ, ⟨⟨u, dx⟩, dy⟩, w, sl, ⟨⟨_, rx⟩, ry⟩, h⟩
  have rx : Rep m.S G m.pen x dx := rx
  have ry : Rep m.S G m.pen y dy := ry
  by_cases ho : ∃ c fs, dx = .obj c fs
  · obtain ⟨c, fs, rfl⟩ := ho
    right
    dsimp only [dOwnC] at h
    cases e : tbl.lookup c with
    | none => rw [e] at h; exact h.elim
    | some mf =>
      rw [e] at h
      dsimp only at h
      unfold nfB at nf
      have nfc := List.all_eq_true.mp nf c (by rw [hcs]; exact List.mem_map.mpr ⟨_, mem_of_lookup e, rfl⟩)
      simp only [Bool.and_eq_true, List.all_eq_true] at nfc
      refine ⟨c, mf, e, ?_⟩
      cases id rx with
      | @obj a dxx _ vs ds ha hl rr =>
        by_cases hy : ∃ c' gs, dy = .obj c' gs
        · obtain ⟨c', gs, rfl⟩ := hy
          dsimp only at h
          split at h
          · rename_i hz
            refine ⟨a, dxx, _, G, p, fs, _, _, rfl, w.sub _ _ ha, w, rx, ry, rfl, by rw [hK]; exact nfc.2 c' (by simpa using hz), post_calm h⟩
          · exact h.elim
        · have h' : Post m.S m.pen m.rE G H Q (fun c d H' => m.W c d σ H') ((match tyName dy with | some _ => (mf [.obj c fs, dy]).calm | none => M.stuck) p) := by
            cases dy <;> first | exact h | exact absurd ⟨_, _, rfl⟩ hy
          cases q : tyName dy with
          | none => rw [q] at h'; exact h'.elim
          | some t =>
            rw [q] at h'
            have et : tbOf m.S dy = some (.type t) := by
              cases dy <;> first | exact absurd ⟨_, _, rfl⟩ hy | (simp only [tbOf, q, Option.map_some])
            exact ⟨a, dxx, _, G, p, fs, dy, _, rfl, w.sub _ _ ha, w, rx, ry, et, by rw [hK]; exact nfc.1 t (tyName_in q), post_calm h'⟩
  · left
    refine hr σ x y H Q ⟨G, p, δ, ⟨⟨u, dx⟩, dy⟩, w, sl, ⟨⟨trivial, rx⟩, ry⟩, ?_⟩
    have e : dOwnC tbl os o dx dy = o dx dy := by
      cases dx <;> first | rfl | exact absurd ⟨_, _, rfl⟩ ho
    dsimp only at h ⊢
    rw [e] at h
    exact h
theorem c_eqO {tbl : OTab} {cs os : List Nat} (B : Bx X m j) (T : ∀ c mf, tbl.lookup c = some mf → OwnT X.prog X.w X.K X.mg X.base m.S k c "__eq__" 2 mf) (hk : Nat.ble k j = true) (hcs : cs = tbl.map (·.1)) (nf : nfB m.S.K m.S cs os = true) : CmpT X m .Eq (dOwnC tbl os (dEq false)) := by
  obtain ⟨r, h1, h2⟩ := (c_eq (X := X) (m := m) B).ex
  exact ⟨_, OpR.or h1 (op_ownT (op := .Eq) (fun _ _ => rfl) B T hk), r_ownC B.hK h2 hcs nf⟩
end
end ME

/-! x != y where the class of x has an own __eq__ and no __ne__. -/
namespace PySem
namespace MeNe
open PySem.W PySem.Calls PySem.Spec
section
variable {prog : Program} {w : World} {A : Around} {E : Value → Shared → Prop} {s : Shared} {K : Frag} {x C f : Addr} {ox : Obj} {od : Option Obj} {b tb : Value}
theorem check_ne {Q : Unit → Shared → Prop} (X : K.In s.heap) (I : InstAt s.heap x ox C od) (hob : subIn K (.ref C) (.type "object") = some true) (hq : Q () s) : wpAny (model prog w) A (checkBuiltinCall "object.__ne__" ⟨[.ref x, b], []⟩) Q E s := by
  simp only [checkBuiltinCall, F.cmpKind_ne, F.cmpSplit_ne]
  refine wpAny_bind ?_
  unfold isInstance
  refine wpAny_bind (I.type.here ?_)
  refine (looks_subIn X hob).here ?_
  have ha : argsOk "object.__ne__" ⟨[.ref x, b], []⟩ := F.cmpArgs_ne _ _
  simp only [if_true, Bool.not_true, Bool.false_eq_true, if_false]
  cases hsig : Manifest.signature? "object.__ne__" with
  | none => exact wpAny_pure hq
  | some sig =>
    simp only [argsOk, hsig] at ha
    show wpAny _ A (Bind.checkArgs "object.__ne__" sig ⟨[.ref x, b], []⟩) Q E _
    have h2 : Bind.checkArgs "object.__ne__" sig ⟨[.ref x, b], []⟩ = pure () := ha
    rw [h2]; exact wpAny_pure hq
theorem ne_entry {Q : Fin → Shared → Prop} (hu : A.units < cLine) (X : K.In s.heap) (I : InstAt s.heap x ox C od) (hs : findIn K (.ref C) "__eq__" = some (some (.ref f))) (hf : isFn K (.ref f) = true)
    (h : codeAny (model prog w) A (.call (.ref f) ⟨[.ref x, b], []⟩) (fun r s' => match r with | .ok (.ret v) => ∃ k, v = .bool k ∧ Q (.done (.ret (.bool (!k)))) s' | .ok _ => False | .error e => E e s') s) : wpAny (model prog w) A (Builtin.«object.__ne__» ⟨[.ref x, b], []⟩) Q E s := by
  unfold Builtin.«object.__ne__»
  repeat (first | with_reducible refine wpAny_cRoomFor hu ?_ | with_reducible refine ifBound_K X I hs hf ?_ | wp_step)
  refine codeAny_mono h fun r s' z => ?_
  cases r with
  | error e => exact z
  | ok fl =>
  cases fl with
  | next => exact z
  | brk => exact z
  | cont => exact z
  | ret v =>
  obtain ⟨k, rfl, q⟩ := z
  repeat (first | with_reducible refine wpAny_truthy_bool ?_ | wp_step)
  exact q
theorem call_ne {Q : Value → Shared → Prop} (hu : A.units + 1 < cLine) (X : K.In s.heap) (I : InstAt s.heap x ox C od) (hob : subIn K (.ref C) (.type "object") = some true) (hs : findIn K (.ref C) "__eq__" = some (some (.ref f))) (hf : isFn K (.ref f) = true)
    (h : codeAny (model prog w) A.in1 (.call (.ref f) ⟨[.ref x, b], []⟩) (fun r s' => match r with | .ok (.ret v) => ∃ k, v = .bool k ∧ Q (.bool (!k)) s' | .ok _ => False | .error e => E e s') s) : wpAny (model prog w) A (call (.builtin "object.__ne__") [.ref x, b]) Q E s :=
  wpAny_call (codeAny_call_builtin F.cmp_object.ne.plain F.cmpEntry_ne (check_ne X I hob (ne_entry (A := A.in1) hu X I hs hf h)))
theorem cmp_ne {Q : Value → Shared → Prop} (hu : A.units + 1 < cLine) (X : K.In s.heap) (I : InstAt s.heap x ox C od) (hb : Looks (model prog w) s.heap (typeOf b) tb) (hn : notFirst K C tb = true) (hne : findIn K (.ref C) "__ne__" = some (some (.builtin "object.__ne__")))
    (hob : subIn K (.ref C) (.type "object") = some true) (hs : findIn K (.ref C) "__eq__" = some (some (.ref f))) (hf : isFn K (.ref f) = true)
    (h : codeAny (model prog w) A.in1 (.call (.ref f) ⟨[.ref x, b], []⟩) (fun r s' => match r with | .ok (.ret v) => ∃ k, v = .bool k ∧ Q (.bool (!k)) s' | .ok _ => False | .error e => E e s') s) : wpAny (model prog w) A (richCompare .NotEq (.ref x) b) Q E s := by
  have one : wpAny (model prog w) A (tryCompare (.ref x) (cmpInfo .NotEq).2.1 b) (fun r s' => ∃ v, r = some v ∧ Q v s') E s := by
    unfold tryCompare
    refine wpAny_bind ?_
    simp only [callSpecialIfBound?, bindSpecialIfBound?]
    refine wpAny_holding (wpAny_bind (wpAny_bind (wpAny_bind (I.type.here ((looks_findIn X hne).here ?_)))))
    simp only [F.cmp_object.ne.bind]
    refine wpAny_bind (wpAny_askSetting (wpAny_ite ?_))
    have back : wpAny (model prog w) A (call (.builtin "object.__ne__") [.ref x, b]) (fun v s' => ∃ k, v = .bool k ∧ Q (.bool k) s') E s := call_ne hu X I hob hs hf (codeAny_mono h fun r s' z => by
      cases r with
      | error e => exact z
      | ok fl =>
        cases fl with
        | ret v => obtain ⟨k, e, q⟩ := z; exact ⟨k, e, _, rfl, q⟩
        | next => exact z
        | brk => exact z
        | cont => exact z)
    split
    · refine wpAny_bind (wpAny_pure (wpAny_pure (wpAny_bind (wpAny_mono back (fun v s' z => ?_) fun _ _ z => z))))
      obtain ⟨k, rfl, q⟩ := z
      exact wpAny_pure (wpAny_pure ⟨_, rfl, q⟩)
    · refine wpAny_tryCatch (wpAny_bind (wpAny_pure (wpAny_pure (wpAny_bind (wpAny_mono back (fun v s' z => ?_) fun _ _ z => z)))))
      obtain ⟨k, rfl, q⟩ := z
      exact wpAny_pure (wpAny_pure ⟨_, rfl, q⟩)
  unfold richCompare
  simp only [oneThing_ref]
  refine wpAny_holding (wpAny_bind (wpAny_cRoomFor (by omega) ?_))
  refine wpAny_bind (I.type.here (wpAny_bind (hb.here ?_)))
  split
  · rename_i q
    have e : subIn K tb (.ref C) = some false := by
      rcases Bool.or_eq_true_iff.mp hn with e | e
      · rw [beq_iff_eq.mp e] at q; simp at q
      · exact beq_iff_eq.mp e
    refine wpAny_bind ((looks_subIn X e).here ?_)
    simp only [Bool.false_eq_true, if_false]
    refine wpAny_bind (wpAny_mono one (fun r s' z => ?_) fun _ _ e => e)
    obtain ⟨v, rfl, hq⟩ := z
    exact wpAny_pure hq
  · refine wpAny_bind (wpAny_pure ?_)
    simp only [Bool.false_eq_true, if_false]
    refine wpAny_bind (wpAny_mono one (fun r s' z => ?_) fun _ _ e => e)
    obtain ⟨v, rfl, hq⟩ := z
    exact wpAny_pure hq
end
end MeNe
end PySem

namespace ME
open PySem PySem.Spec PyProof.Rows L2
section
variable {X : Cx} {m : Am} {j k : Nat}
/-- the classes whose != is object's own -/
def neB (K : PySem.W.Frag) (S : Sg) (cs : List Nat) : Bool := cs.all fun c => (PySem.W.findIn K (.ref (S.ca c)) "__ne__" == some (some (.builtin "object.__ne__"))) && (PySem.W.subIn K (.ref (S.ca c)) (.type "object") == some true)
def notM (f : List D → M D) : List D → M D := fun ds => (f ds).bnd fun d => match d with
  | .bl b => M.ret (.bl (!b))
  | _ => M.stuck
theorem op_ownN {c : Nat} {mf : List D → M D} (B : Bx X m j) (T : OwnT X.prog X.w X.K X.mg X.base m.S k c "__eq__" 2 mf) (hk : Nat.ble (k + 1) j = true) (hne : neB X.K m.S [c] = true) : OpR X (compareOp .NotEq) (rOwnC m X.K c (notM mf)) := by
  intro pins s σ H x y v u Q I rx ry h
  obtain ⟨f, fd, ps, F, hs, hf, hb⟩ := T
  obtain ⟨a, dx, fs, G, p, ds, dy, tb, rfl, ha, w, r1, r2, et, hn, h5⟩ := h
  cases (show v = Value.ref a from rx)
  obtain ⟨od, J⟩ := insInst I ha
  unfold neB at hne
  simp only [List.all_cons, List.all_nil, Bool.and_true, Bool.and_eq_true, beq_iff_eq] at hne
  have hr : Room (k + 1) X.A := B.hr.mono (Nat.le_of_ble_eq_true hk)
  show wpAny _ _ (richCompare .NotEq (.ref a) u) _ _ _
  refine PySem.MeNe.cmp_ne (by have := hr.units; omega) I.kIn J (looks_tb B.hK I w r2 ry et) hn hne.1 hne.2 hs hf ?_
  obtain ⟨its, vd, bd⟩ := hb.ex
  cases vd
  have bt := bd s [.ref a, u] [] I.kIn rfl rfl
  have sp : spM m.S mf [.ref a, y] H (fun v H' => ∃ b, v = .bl b ∧ Q (.bl (!b)) H') (fun _ _ _ => False) := by
    refine ⟨m.pen, G, p, _, w, .cons r1 (.cons r2 .nil), ?_⟩
    dsimp only [notM, M.bnd] at h5
    rcases e : mf [.obj c ds, dy] p with _ | ⟨o, p1⟩
    · rw [e] at h5; exact h5
    · rw [e] at h5
      cases o with
      | ex c fs => exact h5
      | ok d =>
        intro v G' H' x' w' r
        have r : Rep m.S G' m.pen v d := r
        cases r with
        | bl b => exact ⟨b, rfl, h5 (.bl (!b)) G' H' x' w' (.bl _)⟩
        | _ => exact h5.elim
  refine codeAny_mono (F.run X.A.in1 X.stack s H ⟨[.ref a, u], []⟩ [.ref a, u] [.ref a, y] _ (fun _ _ _ => False) B.hq hr.in1 I.env0.in1 bt (.cons rfl (.cons ry .nil)) sp) fun r s' hq => ?_
  cases r with
  | error e => exact B.pf pins σ H s e s' I hq
  | ok fl =>
    cases fl with
    | ret u =>
      obtain ⟨v', H', I', rv', b, eb, q⟩ := I.after hq
      subst eb
      cases (show u = Value.bool b from rv')
      exact ⟨b, rfl, .bl (!b), H', I', rfl, q⟩
    | next => exact False.elim hq
    | brk => exact False.elim hq
    | cont => exact False.elim hq
theorem lookup_map {α β γ : Type} [BEq α] {f : β → γ} {k : α} : ∀ {l : List (α × β)}, (l.map fun q => (q.1, f q.2)).lookup k = (l.lookup k).map f
  | [] => rfl
  | (a, b) :: r => by
    rw [List.map_cons, List.lookup_cons, List.lookup_cons]
    cases k == a with
    | true => rfl
    | false => exact lookup_map
theorem c_neO {tbl : OTab} {cs os : List Nat} (B : Bx X m j) (T : ∀ c mf, tbl.lookup c = some mf → OwnT X.prog X.w X.K X.mg X.base m.S k c "__eq__" 2 mf) (hk : Nat.ble (k + 1) j = true) (hcs : cs = tbl.map (·.1)) (nf : nfB m.S.K m.S cs os = true) (hne : neB m.S.K m.S cs = true) : CmpT X m .NotEq (dOwnC (tbl.map fun q => (q.1, notM q.2)) os (dEq true)) := by
  obtain ⟨r, h1, h2⟩ := (c_ne (X := X) (m := m) B).ex
  refine ⟨_, OpR.or h1 (fun pins s σ H x y v u Q I rx ry ⟨c, mf, e, h⟩ => ?_), r_ownC (cs := cs) B.hK h2 (by rw [hcs, List.map_map]; rfl) nf⟩
  rw [lookup_map] at e
  cases q : tbl.lookup c with
  | none => rw [q] at e; cases e
  | some mg =>
    rw [q] at e
    cases e
    refine op_ownN B (T c mg q) hk ?_ pins s σ H x y v u Q I rx ry h
    unfold neB at hne ⊢
    have := List.all_eq_true.mp hne c (by rw [hcs]; exact List.mem_map.mpr ⟨_, mem_of_lookup q, rfl⟩)
    rw [B.hK]
    simpa using this
end
end ME

/-! ~x by an own __invert__. -/
namespace ME
open PySem PySem.Spec PyProof.Rows L2
section
variable {X : Cx} {m : Am} {j k : Nat}
def dOwn1 (tbl : OTab) : D → M D
  | .obj c fs => match tbl.lookup c with
    | some mf => (mf [.obj c fs]).calm
    | none => M.stuck
  | _ => M.stuck
def rOwn1 (m : Am) (tbl : OTab) : V → Hp → VK → Prop := fun x H Q => ∃ c mf a dx fs G p ds, tbl.lookup c = some mf ∧ x = .ref a ∧ H a = some (.ins (m.S.ca c) dx fs) ∧ Wd m.S m.pen G H p ∧ Rep m.S G m.pen x (.obj c ds) ∧
  Post m.S m.pen (fun G v d => Rep m.S G m.pen v d) G H Q (fun _ _ _ => False) (mf [.obj c ds] p)
theorem un_inv {tbl : OTab} (B : Bx X m j) (T : ∀ c mf, tbl.lookup c = some mf → OwnT X.prog X.w X.K X.mg X.base m.S k c "__invert__" 1 mf) (hk : Nat.ble k j = true) : UnR X (unaryOp .Invert) (rOwn1 m tbl) := by
  intro pins s σ H x v Q I rx h
  obtain ⟨c, mf, a, dx, fs, G, p, ds, el, rfl, ha, w, r1, h5⟩ := h
  obtain ⟨f, fd, ps, F, hs, hf, hb⟩ := T c mf el
  cases (show v = Value.ref a from rx)
  obtain ⟨od, J⟩ := insInst I ha
  obtain ⟨m', hF⟩ := I.fr
  refine PySem.W.ksp_inv hF I.ok.mod.kin J hs hf ?_
  obtain ⟨its, vd, bd⟩ := hb.ex
  cases vd
  have bt := bd s [.ref a] [] I.kIn rfl rfl
  have sp : spM m.S mf [.ref a] H Q (fun _ _ _ => False) := ⟨m.pen, G, p, _, w, .cons r1 .nil, h5⟩
  refine wpAny_call (codeAny_mono ((F.mono (Nat.le_of_ble_eq_true hk)).run X.A X.stack s H ⟨[.ref a], []⟩ [.ref a] [.ref a] Q (fun _ _ _ => False) B.hq B.hr I.env0 bt (.cons rfl .nil) sp) fun r s' hq => ?_)
  cases r with
  | error e => exact B.pf pins σ H s e s' I hq
  | ok fl =>
    cases fl with
    | ret u => exact I.after hq
    | next => exact False.elim hq
    | brk => exact False.elim hq
    | cont => exact False.elim hq
theorem r_own1 {tbl : OTab} : R1Ok m (rOwn1 m tbl) (dOwn1 tbl) := by
  rintro σ x H Q ⟨G, p, δ, ⟨_, d⟩, w, sl, ⟨_, r⟩, h⟩
  have r : Rep m.S G m.pen x d := r
  cases id r with
  | @obj a dx c vs ds ha hl rr =>
    dsimp only [dOwn1] at h
    cases e : tbl.lookup c with
    | none => rw [e] at h; exact h.elim
    | some mf =>
      rw [e] at h
      exact ⟨c, mf, a, dx, _, G, p, ds, e, rfl, w.sub _ _ ha, w, r, post_calm h⟩
  | _ => exact h.elim
theorem me_inv {tbl : OTab} {a : Expr} {ea : EX} {pos : Pos} (B : Bx X m j) (T : ∀ c mf, tbl.lookup c = some mf → OwnT X.prog X.w X.K X.mg X.base m.S k c "__invert__" 1 mf) (hk : Nat.ble k j = true) (ha : PE X a (tE m ea)) : PE X (.UnaryOp .Invert a pos) (tE m (mUn (dOwn1 tbl) ea)) := me_un (un_inv B T hk) r_own1 ha
end
end ME

/-! f-strings of texts and ints. -/
namespace ME
open PySem PySem.Spec PyProof.Rows L2
def dFmt : D → M D
  | .str y => if szOk y.length then M.ret (.str y) else M.stuck
  | .int i => if decide (i.natAbs.log2 < 1920) then M.ret (.str (toString i)) else M.stuck
  | _ => M.stuck
def mJoin : List EX → Str → DS → M D
  | [], acc, _ => M.ret (.str acc)
  | e :: r, acc, δ => (e δ).bnd fun d => match d with
    | .str y => if szOk (acc ++ y).length then mJoin r (acc ++ y) δ else M.stuck
    | _ => M.stuck
section
variable {X : Cx} {m : Am} {pos : Pos}
theorem me_fmt {e : Expr} {ea : EX} (he : PE X e (tE m ea)) : PE X (.FormattedValue e (-1) none pos) (tE m (mUn dFmt ea)) := by
  refine PE.imp (pe_fmt he) fun σ H Q h => ?_
  refine (tY_bind (R1 := m.rE) r0_mono h).imp fun x H1 h2 => ?_
  obtain ⟨G, p, δ, ⟨_, d⟩, w, sl, ⟨_, r⟩, h3⟩ := h2
  have r : Rep m.S G m.pen x d := r
  cases r with
  | str y =>
    dsimp only [dFmt] at h3
    split at h3
    · rename_i hz; exact .inl ⟨y, rfl, szOk_le hz, fin_same w (.str _) h3⟩
    · exact h3.elim
  | int i =>
    dsimp only [dFmt] at h3
    split at h3
    · rename_i hz; exact .inr ⟨i, rfl, of_decide_eq_true hz, fin_same w (.str _) h3⟩
    · exact h3.elim
  | _ => exact h3.elim
theorem join_of : ∀ {es : List EX} {acc : Str} {σ : L2.St} {H : Hp} {Q : VK}, tE m (mJoin es acc) σ H Q → tJs (es.map (tE m)) acc σ H fun out H1 => Q (.str out) H1
  | [], acc, σ, H, Q, h => by
    obtain ⟨G, p, δ, _, w, sl, _, h⟩ := h
    exact h (.str acc) G H Ex.refl w (.str acc)
  | e :: es, acc, σ, H, Q, h => by
    refine (tY_bind (R1 := m.rE) r0_mono h).imp fun x H1 h2 => ?_
    obtain ⟨G, p, δ, ⟨_, d⟩, w, sl, ⟨_, r⟩, h3⟩ := h2
    have r : Rep m.S G m.pen x d := r
    cases r with
    | str y =>
      dsimp only at h3
      split at h3
      · rename_i hz
        exact ⟨y, rfl, szOk_le hz, join_of ⟨G, p, δ, (), w, sl, trivial, h3⟩⟩
      · exact h3.elim
    | _ => exact h3.elim
theorem me_join {v1 v2 : Expr} {rest : List Expr} {es : List EX} (h : PJ X (v1 :: v2 :: rest) (es.map (tE m))) : PE X (.JoinedStr (v1 :: v2 :: rest) pos) (tE m (mJoin es Str.empty)) :=
  PE.imp (pe_joined h) fun σ H Q h => join_of h
end
end ME

/-! A lambda without parameters handed to a def that calls it. -/
namespace ME
open PySem PySem.Spec PyProof.Rows L2
abbrev lamN (X : Cx) : Str := X.env.qual ++ "<lambda>"
abbrev lamO (X : Cx) (params : Arguments) (body : Expr) (scope : Scope) (pm : Value) (c' : Addr) (ctv : Value) : Obj :=
  PySem.W.kla_obj "<lambda>" (lamN X) params body scope (cloFrom X.env.cells scope.names []) pm c' ctv
section
variable {X : Cx} {pins : List (Addr × Obj)} {σ : L2.St} {H : Hp} {s : Shared}
/-- the lambda is made; what was tracked is tracked still, only the table grows -/
theorem mk_lam {T : List (Addr × Str)} {c P : Addr} {params : Arguments} {body : Expr} {scope : Scope} {pos : Pos} {E Q : Value → Shared → Prop} (I : Inv X pins σ H s) (TB : LamX.TabB X.base X.mg c P) (hcode : X.env.code = .ref c)
    (hm : (P, lamN X) ∈ T) (hu : ∀ q ∈ T, q.1 = P → q.2 = lamN X) (hT : LamX.Tabs T H) (hdef : defaultsOf params X.env = ([], [])) (hfree : ∀ y ∈ scope.names, y.2 = .free → ∃ c, X.env.cells.lookup y.1 = some c)
    (h : ∀ (f c' : Addr) (pm ctv : Value) (H1 : Hp) (s' : Shared), Inv X pins σ H1 s' → (∀ a o, a ≠ P → H a = some o → H1 a = some o) → (∀ a, H1 a = none → H a = none) → LamX.Tabs T H1 →
      s'.heap.get? f = some (lamO X params body scope pm c' ctv) → H1 f = none → f ∉ frs X.stack → H1 c' = some (LamX.CodeO c' (lamN X)) → Q (.ref f) s') :
    wpAny (model X.prog X.w) X.A (eval (.Lambda params body scope pos) X.env) Q E s := by
  obtain ⟨ps, eP, tri, known⟩ := hT _ hm
  apply PySem.W.kla_eval hdef
  have objP : s.heap.get? P = some { cls := .none, data := .fields ps } := I.hok P _ eP
  have away : ∀ f, s.heap.objs.size ≤ f → f ∉ frs X.stack := fun f hf z => by
    rcases List.mem_cons.mp (I.stkSub _ z) with e | e
    · subst e; exact absurd I.lt (Nat.not_lt.mpr hf)
    · exact I.nofs hf e
  rcases hc : codeAmong pos ps.toList with _ | cv
  · apply PySem.W.kla_makeFunction (mg := X.mg) (closure_ok hfree) I.ok.glob (I.mod.glob.keeps I.bk) hcode (TB.code.keeps I.bk) objP tri hc TB.gP (TB.bm.keeps I.bk)
    intro c' ctv h' tk hx hge hlt hrec htb
    obtain ⟨c2, oc, vs, t, e2, hoc, hd, hv⟩ := hrec
    cases e2
    have big : s.heap.objs.size ≤ h'.objs.size := Nat.le_trans hge (Nat.le_of_lt hlt)
    have nC : H c' = none := I.hok.fresh hge
    obtain ⟨more, hmore⟩ : ∃ more : Array Value, more = #[rawInt pos.line, rawInt pos.col, .ref c'] := ⟨_, rfl⟩
    rw [← hmore] at htb
    have nPc : P ≠ c' := ne_of_none eP nC
    have keep : ∀ a o, a ≠ P → H a = some o → upd (upd H P (.tbl (ps ++ more))) c' (LamX.CodeO c' (lamN X)) a = some o := fun a o hP e => by
      rw [upd_ne (ne_of_none e nC), upd_ne hP]; exact e
    have atP : upd (upd H P (.tbl (ps ++ more))) c' (LamX.CodeO c' (lamN X)) P = some (.tbl (ps ++ more)) := by rw [upd_ne nPc, upd_same]
    have I1 := LamX.inv_table (t' := tk) (more := more) (h' := h'.push (lamO X params body scope ((X.mg "__name__").getD .none) c' ctv)) I eP
      (fun b o hb e => Heap.get?_push_of_some _ (hx b o hb e)) (Heap.get?_push_of_some _ htb) hge ⟨oc, vs, t, Heap.get?_push_of_some _ hoc, hd, hv⟩
    have eL : (ps ++ more).toList = ps.toList ++ [rawInt pos.line, rawInt pos.col, .ref c'] := by rw [hmore]; simp
    refine h h'.objs.size c' _ ctv _ _ I1 keep (fun a e => ?_) (fun q hq => ?_) (Heap.get?_push_size _ rfl) ?_ (away _ big) upd_same
    · by_cases z : a = c'
      · rw [z, upd_same] at e; cases e
      · rw [upd_ne z] at e
        by_cases z2 : a = P
        · rw [z2, upd_same] at e; cases e
        · rw [upd_ne z2] at e; exact e
    · obtain ⟨us, a1, a2, a3⟩ := hT q hq
      by_cases hb : q.1 = P
      · rw [hu q hq hb, hb]
        refine ⟨_, atP, by rw [eL]; exact PySem.TriplesOk_snoc _ _ _ _ tri, fun p' cv hcv => ?_⟩
        rw [eL] at hcv
        rcases LamX.among_app _ tri hcv with z | z
        · obtain ⟨c0, e1, e2⟩ := known p' cv z
          exact ⟨c0, e1, keep _ _ (fun y => by rw [y, eP] at e2; cases e2) e2⟩
        · exact ⟨c', z, upd_same⟩
      · refine ⟨us, keep _ _ hb a1, a2, fun p' cv hcv => ?_⟩
        obtain ⟨c0, e1, e2⟩ := a3 p' cv hcv
        exact ⟨c0, e1, keep _ _ (fun y => by rw [y, eP] at e2; cases e2) e2⟩
    · have n2 : h'.objs.size ≠ P := Nat.ne_of_gt (Nat.lt_of_lt_of_le (Heap.lt_size objP) big)
      rw [upd_ne (Nat.ne_of_gt hlt), upd_ne n2]
      exact I.hok.fresh big
  · obtain ⟨c', e, hco⟩ := known pos cv hc
    subst e
    apply PySem.W.kla_makeFunctionHit (mg := X.mg) (closure_ok hfree) I.ok.glob (I.mod.glob.keeps I.bk) hcode (TB.code.keeps I.bk) objP tri hc (TB.bm.keeps I.bk)
    intro ctv h' tk hx big
    have I1 : Inv X pins σ H { s with heap := h'.push (lamO X params body scope ((X.mg "__name__").getD .none) c' ctv), toks := tk } := I.kept fun b o e => Heap.get?_push_of_some _ (hx b o e)
    exact h h'.objs.size c' _ ctv H _ I1 (fun _ _ _ e => e) (fun _ e => e) hT (Heap.get?_push_size _ rfl) (I.hok.fresh big) (away _ big) hco
/-- a(), in the def that got the lambda -/
theorem act_pe {Eg : XK} {Ng : List Str} {qg : Str} {sg : Scope} {g f c' : Addr} {cdg pm ctv : Value} {params : Arguments} {body : Expr} {scope : Scope} {k i : Nat} {a : Str} {pn : List (Addr × Obj)} {xe : Value → Shared → Prop} {W : WX} {tb : XK → TE} {p1 p2 : Pos}
    (I : Inv X pins σ H s) (L : LamX.LamS X.env.scope scope) (hf : s.heap.get? f = some (lamO X params body scope pm c' ctv)) (hfn : H f = none) (hfr : f ∉ frs X.stack)
    (hbind : bindArgs (PySem.W.kla_fn "<lambda>" (lamN X) params body scope (cloFrom X.env.cells scope.names []) pm (.ref c') ctv) ⟨[], []⟩ = pure [])
    (tk : Takes ((cxOf (L2.CX X.prog X.w) X.prog X.w X.K X.mg X.base Ng qg sg g cdg X.A X.stack s H Eg).tr pn xe) W) (hr : Room (k + 1) (X.A.deeper (envOfC qg sg s.heap.objs.size g cdg)))
    (hbody : ∀ (A : Around) (outer : List Env) (s : Shared) (H : Hp) (E : XK), A.guards = X.A.guards → Room k (A.deeper (LamX.lamEnv X scope s.heap.objs.size f c')) → PE (LamX.lamCx X A outer s H E scope f c') body (tb E))
    (hN : Ng[i]? = some a) (hv : Vis sg a) (hd : (a == ("__debug__" : Str)) = false) (hcd : (a == ("__classdict__" : Str)) = false) :
    PE ((cxOf (L2.CX X.prog X.w) X.prog X.w X.K X.mg X.base Ng qg sg g cdg X.A X.stack s H Eg).tr pn xe) (.Call (.Name a p1) [] [] p2)
      (fun σZ HZ Q => σZ[i]? = some (some (.ref f)) ∧ HZ c' = some (LamX.CodeO c' (lamN X)) ∧ tb (WE W σZ) σ HZ Q) := by
  refine ⟨fun pinsZ sZ σZ HZ Q IZ ⟨hs, hc, ht⟩ => ?_⟩
  apply wpAny_Call_Name_kw
  refine thn ((pe_var (pos := p1) (i := i) hN hv hd hcd).run pinsZ sZ σZ HZ (fun v H1 => v = .ref f ∧ H1 = HZ) IZ ⟨.ref f, hs, rfl, rfl⟩) fun u s1 ⟨v, H1, I1, r1, q1, q2⟩ => ?_
  subst q1 q2
  obtain rfl : u = Value.ref f := r1
  have f1 := I1.base.keep f _ hf hfn hfr (fun z => nomatch (show f ∈ ([] : List Addr) from z))
  apply PySem.W.callWith_F0 ⟨_, _, _, _, f1⟩
  obtain ⟨⟨oc, vs, t, hoc, hdc, hvc⟩, _, _⟩ := I1.hok c' _ hc
  have run : codeAny (model X.prog X.w) (X.A.deeper (envOfC qg sg s.heap.objs.size g cdg)) (.call (.ref f) ⟨[], []⟩) (CR (L2.CX X.prog X.w) (envOfC qg sg s.heap.objs.size g cdg :: X.stack) X.prog X.w H1 s1 Q (WE W σZ)) s1 := by
    apply PySem.W.kla_callFunE hr.depth f1 rfl L.co L.gen rfl ⟨c', oc, vs, t, rfl, hoc, hdc, hvc⟩
    rw [hbind]
    apply wpAny_pure
    refine wpAny_newFunctionEnv (fun y hy => (L.own y hy).2) (fun y hy => absurd hy (by simp)) (fun h₁ hns hsb => ⟨I1.nolimit.fresh _ hsb, ?_⟩) L.kind
    show codeAny _ _ (.expr body (LamX.lamEnv X scope s1.heap.objs.size f c')) _ _
    have kp : ∀ b o, s1.heap.get? b = some o → h₁.get? b = some o := fun b o e => hsb.extBut b o (Nat.ne_of_lt (Heap.lt_size e)) (Heap.get?_push_of_some _ e)
    have J := LamX.lam_start2 (A := X.A.deeper (envOfC qg sg s.heap.objs.size g cdg)) (outer := envOfC qg sg s.heap.objs.size g cdg :: X.stack) (E := WE W σZ) (f := f) (c' := c') (tk := s1.toks + ([] : List (Str × Value)).length) I L I1.env0 hr.hd I1.base hns kp
    apply PySem.W.kla_codeExpr
    refine wpAny_mono ((hbody (X.A.deeper (envOfC qg sg s.heap.objs.size g cdg)) _ s1 H1 (WE W σZ) rfl (hr.deeper _)).run [] _ _ H1 Q J ht) (fun v s' hq => ?_) fun e s' hq => hq
    obtain ⟨w', H', J', rv, q⟩ := hq
    exact ⟨w', H', J'.os, J'.bare, J'.base, J'.hok, rv, q⟩
  refine wpAny_call (codeAny_mono run fun r s' hq => ?_)
  cases r with
  | error e => exact passAt tk σZ pinsZ H1 s1 e s' I1 hq
  | ok fl =>
    cases fl with
    | ret u => exact I1.after hq
    | next => exact False.elim hq
    | brk => exact False.elim hq
    | cont => exact False.elim hq
end
/-! ### the mirror -/
/-- a() where a (the slot 0) is the lambda f that does act -/
def mAct (f : Nat) (act : M D) : EX := fun δ p => match (δ[0]? : Option (Option Sl)) with
  | some (some (.d (.clo g))) => if g = f then act p else none
  | _ => none
theorem mAct_at {f : Nat} {act : M D} {δ : DS} {p : Pn} : mAct f act (some (.d (.clo f)) :: δ) p = act p := by
  show (if f = f then act p else none) = act p
  rw [if_pos rfl]
def tAct (S : Sg) (pen : Addr) (G0 B : Hp) (f : Addr) (act : M D) (W : WX) : TE := fun σ H Q => σ[0]? = some (some (.ref f)) ∧ ∃ G p, Wd S pen G H p ∧ Ex pen G0 B G H ∧ Post S pen (fun G v d => Rep S G pen v d) G H Q (WE W σ) (act p)
/-- in the context Z the name a may be called so -/
def ActOk (Z : Cx) (S : Sg) (pen : Addr) (G0 B : Hp) (a : Str) (f : Addr) (act : M D) : Prop :=
  ∀ (W : WX) (pn : List (Addr × Obj)) (xe : Value → Shared → Prop) (p1 p2 : Pos), Takes (Z.tr pn xe) W → PE (Z.tr pn xe) (.Call (.Name a p1) [] [] p2) (tAct S pen G0 B f act W)
section
variable {X : Cx} {m : Am} {f : Addr} {act : M D} {a : Str} {p1 p2 pos : Pos}
theorem tAct.imp {S : Sg} {pen : Addr} {G0 B : Hp} {W : WX} {σ : L2.St} {H : Hp} {Q Q' : VK} (h : tAct S pen G0 B f act W σ H Q) (i : ∀ v H', Q v H' → Q' v H') : tAct S pen G0 B f act W σ H Q' := by
  obtain ⟨e, G, p, w, x, h⟩ := h
  exact ⟨e, G, p, w, x, Post.imp h i⟩
theorem tS_act {k : D → SX} {K : Ends} {σ : L2.St} {H : Hp} (h : tS m (sBnd (mAct f act) k) K σ H) :
    tAct m.S m.pen m.G0 m.B f act m.W σ H (fun v H1 => ∃ d G p δ, Wd m.S m.pen G H1 p ∧ Ex m.pen m.G0 m.B G H1 ∧ SlR m.S m.pen m.B G H1 σ δ ∧ Rep m.S G m.pen v d ∧ PostS m K G (k d δ p)) := by
  obtain ⟨G, p, δ, w, x, sl, h⟩ := h
  dsimp only [sBnd, mAct] at h
  rcases e0 : δ[0]? with _ | o
  · rw [e0] at h; exact h.elim
  rcases o with _ | sl0
  · rw [e0] at h; exact h.elim
  cases sl0 with
  | d y =>
    cases y with
    | clo g =>
      rw [e0] at h
      dsimp only at h
      by_cases hg : g = f
      · subst hg
        rw [if_pos rfl] at h
        obtain ⟨v, e1, r⟩ := sl.val 0 _ e0
        cases r
        refine ⟨e1, G, p, w, x, ?_⟩
        rcases he : act p with _ | ⟨o, p1⟩
        · rw [he] at h; exact h
        · rw [he] at h
          cases o with
          | ok d => exact fun v G' H' x' w' r => ⟨d, G', p1, δ, w', x.trans x', sl.ex x', r, h.mono x'.sub⟩
          | ex c fs => exact fun d G' H' x' w' r => h d σ G' H' x'.sub w' (x.trans x') (sl.ex x') r
      · rw [if_neg hg] at h; exact h.elim
    | _ => rw [e0] at h; exact h.elim
  | _ => rw [e0] at h; exact h.elim
theorem ms_actE (A : PE X (.Call (.Name a p1) [] [] p2) (tAct m.S m.pen m.G0 m.B f act m.W)) (hs : swapsWith (.Call (.Name a p1) [] [] p2) none pos.line X.env = pure false := by rfl) : PS X (.Expr (.Call (.Name a p1) [] [] p2) pos) (tS m (sExpr (mAct f act))) :=
  PS.imp (ps_expr A hs) fun K σ H h => (tS_act h).imp fun v H1 ⟨d, G, p, δ, w, x, sl, r, q⟩ => q σ G H1 (Sub.refl _) w x sl
theorem ms_actS {i : Nat} {x : Str} {pos' : Pos} (A : PE X (.Call (.Name a p1) [] [] p2) (tAct m.S m.pen m.G0 m.B f act m.W)) (hN : nodB X.N = true) (h : stoB X.N X.env.scope i x = true) (hs : swapsWith (.Call (.Name a p1) [] [] p2) (some (.Name x pos')) pos.line X.env = pure false := by rfl) (hf : X.fn x = true := by rfl) :
    PS X (.Assign [.Name x pos'] (.Call (.Name a p1) [] [] p2) pos) (tS m (sSet i (mAct f act))) := by
  unfold stoB at h
  simp only [Bool.and_eq_true] at h
  exact PS.imp (ps_set (nodB_of hN) (ixB_of h.1) (locB_of h.2) A hs (.inl hf)) fun K σ H h => (tS_act h).imp fun v H1 ⟨d, G, p, δ, w, x, sl, r, q⟩ => q _ G H1 (Sub.refl _) w x (sl.set r)
def sRetL (e : EX) : SX := sBnd e fun d _ p => some (.rt (.lst [d]), p)
theorem ms_actR {k : Nat} {pl : Pos} (A : PE X (.Call (.Name a p1) [] [] p2) (tAct m.S m.pen m.G0 m.B f act m.W)) : PS X (.Return (some (.List [.Call (.Name a p1) [] [] p2] pl)) pos) (tS m (sRetL (mAct f act))) := by
  refine PS.imp (ps_ret (pe_lst (pa_cons A pa_nil))) fun K σ H h => (tS_act h).imp fun v H1 ⟨d, G, p, δ, w, x, sl, r, q⟩ => ?_
  refine ⟨show 1 ≤ sizeLine by rw [sizeLine_eq]; decide, fun b hb => ?_⟩
  exact q (.ref b) _ _ (Sub.alloc (w.gfree hb)) (w.alloc hb) (x.trans (Ex.alloc hb (w.gfree hb))) (.lst upd_same (.cons (r.mono (Sub.alloc (w.gfree hb))) .nil))
/-- what is known of a slot is forgotten -/
def sDrop (i : Nat) (s : SX) : SX := fun δ p => s (δ.set i none) p
theorem SlR.drop {S : Sg} {pen : Addr} {B G H : Hp} {σ : L2.St} {δ : DS} {i : Nat} (sl : SlR S pen B G H σ δ) : SlR S pen B G H σ (δ.set i none) := by
  have old : ∀ (j : Nat) s, (δ.set i none)[j]? = some (some s) → δ[j]? = some (some s) := fun j s e => by
    by_cases hj : i = j
    · subst hj
      rw [List.getElem?_set] at e
      simp only [if_true] at e
      split at e <;> cases e
    · rw [List.getElem?_set_ne hj] at e; exact e
  exact ⟨by simp [sl.len], fun j x e => sl.val j x (old _ _ e), fun j xs e => sl.ml j xs (old _ _ e), fun j xs e => sl.md j xs (old _ _ e), fun j c xs e => sl.mo j c xs (old _ _ e), fun j k s t l e1 e2 => sl.inj j k s t l (old _ _ e1) (old _ _ e2)⟩
theorem mss_drop {i : Nat} {ss : List Stmt} {s : SX} (h : PSs X ss (tS m s)) : PSs X ss (tS m (sDrop i s)) :=
  PSs.imp h fun K σ H ⟨G, p, δ, w, x, sl, q⟩ => ⟨G, p, δ.set i none, w, x, sl.drop, q⟩
end
theorem Bx.lam {X : Cx} {A : Around} {outer : List Env} {s : Shared} {H : Hp} {E : XK} {scope : Scope} {f c' : Addr} {S : Sg} {pen : Addr} {G0 B : Hp} {j : Nat}
    (hg : A.guards = some []) (hr : Room j (A.deeper (LamX.lamEnv X scope s.heap.objs.size f c'))) (hK : X.K = S.K) (hS : ∃ o, X.base.get? sysModules = some o) :
    Bx (LamX.lamCx X A outer s H E scope f c') ⟨S, pen, G0, B, fun c d _ H' => E c d H'⟩ j := by
  have tk : Takes (LamX.lamCx X A outer s H E scope f c') (fun c d _ H' => E c d H') := takes_of (E := E) rfl rfl rfl rfl
  exact ⟨tk, hg, hr, rfl, hK, hS, fun pins σ H1 s1 e s2 I c => by obtain ⟨_, _, _, _, _, _, _, _, _, _, _, _, z⟩ := c; exact z.elim⟩
/-- the def x, which calls what it gets, does h of it -/
def HrdT (P : Program) (w : World) (K : PySem.W.Frag) (mg : Str → Option Value) (base : Heap) (S : Sg) (k : Nat) (x : Str) (h : M D → M D) : Prop :=
  ∃ (g : Addr) (fd : FuncData) (a : Str) (st : Stmt) (Ng : List Str) (oc : Value) (od : Option Addr) (dV kV doc pm : Value) (an : Option Addr) (cdv ct : Value) (osl : Array (Option Value)) (hB : Nat → M D → SX),
    fd = PySem.W.fnOf x x (defArgs st) (defBody st) (defScope st) dV kV doc pm an cdv ct ∧ K.lookup g = some ⟨oc, od, .func fd, osl⟩ ∧ PySem.W.codeIn K cdv x = true ∧ mg x = some (.ref g) ∧ PySem.W.keepIn K (.ref g) = true ∧
    Bd K fd [a] 1 [] [] [.p 0] ∧ FnScope Ng [a] (defScope st) ∧ Ng[0]? = some a ∧ Vis (defScope st) a ∧ nmB a = true ∧
    (∀ f act p, outOf (hB f act (dsOf Ng.length [.clo f]) p) = h act p) ∧
    ∀ (A : Around) (outer : List Env) (s : Shared) (pen : Addr) (G0 H : Hp) (E : XK) (f : Addr) (act : M D), A.guards = some [] → Room k (A.deeper (envOfC x (defScope st) s.heap.objs.size g cdv)) →
      ActOk (cxOf (L2.CX P w) P w K mg base Ng x (defScope st) g cdv A outer s H E) S pen G0 H a f act →
      PSs (cxOf (L2.CX P w) P w K mg base Ng x (defScope st) g cdv A outer s H E) (defBody st) (tS ⟨S, pen, G0, H, fun c d _ H' => E c d H'⟩ (hB f act))
def mLam (h : M D → M D) (e : EX) : EX := fun δ => h (e δ)
section
variable {X : Cx} {m : Am} {j k : Nat} {x : Str} {p pos lpos : Pos} {params : Arguments} {body : Expr} {scope : Scope} {h : M D → M D} {eb : EX} {c P : Addr}
theorem me_lam (B : Bx X m j) (T : HrdT X.prog X.w X.K X.mg X.base m.S k x h) (hk : Nat.ble (k + 1) j = true) {kl : Nat} (hkl : Nat.ble (kl + 2) j = true) (hg : gloB X.env.scope x = true) (hx : nmB x = true)
    (TB : LamX.TabB X.base X.mg c P) (hcode : X.env.code = .ref c) (hmT : (P, lamN X) ∈ m.S.T) (hu : ∀ q ∈ m.S.T, q.1 = P → q.2 = lamN X) (L : LamX.lamSB X.env.scope scope = true) (hdef : defaultsOf params X.env = ([], []))
    (hbind : ∀ (q : Str) (cl : List (Str × Addr)) (pm cv ctv : Value), bindArgs (PySem.W.kla_fn "<lambda>" q params body scope cl pm cv ctv) ⟨[], []⟩ = pure [])
    (hbody : ∀ (A : Around) (outer : List Env) (s : Shared) (H : Hp) (E : XK) (f c' : Addr) (G0 B0 : Hp), A.guards = some [] → Room kl (A.deeper (LamX.lamEnv X scope s.heap.objs.size f c')) → PE (LamX.lamCx X A outer s H E scope f c') body (tE ⟨m.S, m.pen, G0, B0, fun c d _ H' => E c d H'⟩ eb)) :
    PE X (.Call (.Name x p) [.Lambda params body scope lpos] [] pos) (tE m (mLam h eb)) := by
  obtain ⟨g, fd, a, st, Ng, oc, od, dV, kV, doc, pm, an, cdv, ct, osl, hB, rfl, lk, hcd, hm, hkp, hb, Sg, hN0, hva, hna, hU, hG⟩ := T
  refine ⟨fun pins s σ H Q I hh => ?_⟩
  obtain ⟨G, pn, δ, _, w, sl, _, h5⟩ := hh
  have L := LamX.lamS_by L
  refine wpAny_Call_Name_kw (ld_glob I (gl_of hg) hm ?_ (nmB_of hx).1)
  refine PySem.W.callWith_K (h₀ := X.base) I.ok.mod.kin hkp ?_ (by rfl) (by rfl)
  show wpAny _ _ (spliced ((false, eval (.Lambda params body scope lpos) X.env) :: backTo pos (starEach [] X.env))) _ _ s
  refine Calls.spliced_cons (mk_lam I TB hcode hmT hu w.tabs hdef (L.has I.ok) fun f c' pm' ctv H1 s' I1 eN dm T1 hf hfn hfr hco => ?_)
  refine Calls.spliced_nil ⟨I1.kIn, ?_⟩
  have nP : ∀ {a o}, H a = some o → (∀ y, o ≠ .tbl y) → a ≠ P := fun {a o} e n z => by
    obtain ⟨ps, hP, _⟩ := w.tabs _ hmT
    rw [z, hP] at e; exact n _ (Option.some.inj e).symm
  have gP : G P = none := w.gt _ hmT
  have x1 : Ex m.pen G H G H1 := ⟨Sub.refl _, fun a o _ n e => eN a o (nP e n) e, dm, fun a e _ => e⟩
  have w1 : Wd m.S m.pen G H1 pn := by
    obtain ⟨l, e1, e2⟩ := w.pn
    exact ⟨fun a o e => eN a o (fun z => by rw [z, gP] at e; cases e) (w.sub a o e), w.np, ⟨l, eN _ _ (nP e1 (by intro _ z; cases z)) e1, e2⟩, T1, w.gt⟩
  have nc : c' ≠ m.pen := fun z => by
    obtain ⟨l, e1, _⟩ := w1.pn
    rw [z, e1] at hco; exact lst_code _ _ (Option.some.inj hco)
  obtain ⟨its, vd, bd⟩ := hb.ex
  cases vd
  have hrj := B.hr.mono (Nat.le_of_ble_eq_true hk)
  have run : codeAny (model X.prog X.w) X.A (.call (.ref g) ⟨[.ref f], []⟩) (CR (L2.CX X.prog X.w) X.stack X.prog X.w H1 s' Q (WE m.W σ)) s' := by
    refine LamX.run_ofS (N := Ng) (ps := [a]) (us := [.ref f]) (vs := [.ref f]) lk hcd Sg hrj I1.env0 (bd s' [.ref f] [] I1.kIn rfl rfl) (.cons rfl .nil) rfl fun hr' => ?_
    have act : ActOk (cxOf (L2.CX X.prog X.w) X.prog X.w X.K X.mg X.base Ng x (defScope st) g cdv X.A X.stack s' H1 (WE m.W σ)) m.S m.pen G H1 a f (eb δ) := fun W pn2 xe p1 p2 tk => by
      refine PE.imp (act_pe (i := 0) (k := kl) (tb := fun E => tE ⟨m.S, m.pen, m.G0, m.B, fun c d _ H' => E c d H'⟩ eb) I1 L hf hfn hfr (hbind _ _ _ _ _) tk ((B.hr.mono (Nat.le_of_ble_eq_true hkl)).deeper _)
        (fun A outer s H E hA hr2 => hbody A outer s H E f c' m.G0 m.B (hA.trans B.hq) hr2) hN0 hva (nmB_of hna).1 (nmB_of hna).2.1) fun σZ HZ QZ hz => ?_
      obtain ⟨e0, G2, p2, w2, x2, h2⟩ := hz
      exact ⟨e0, x2.keep c' _ nc (fun y => LamX.codeO_ne y) hco, G2, p2, δ, (), w2, (sl.ex x1).ex x2, trivial, h2⟩
    refine ⟨_, hG X.A X.stack s' m.pen G H1 (WE m.W σ) f (eb δ) B.hq hr' act, ?_⟩
    refine ⟨G, pn, dsOf Ng.length [.clo f], w1, Ex.refl, SlR.start (.cons (.clo f) .nil), ?_⟩
    have h6 : Post m.S m.pen m.rE G H Q (WE m.W σ) (outOf (hB f (eb δ) (dsOf Ng.length [.clo f]) pn)) := by rw [hU]; exact h5
    rcases he : hB f (eb δ) (dsOf Ng.length [.clo f]) pn with _ | ⟨o, p1⟩
    · rw [he] at h6; exact h6
    · rw [he] at h6
      cases o with
      | nx δ' => exact fun σ' G' H' _ w' x' sl' => h6 .non G' H' (x1.trans x') w' .non
      | rt d => exact fun v G' H' _ w' x' r' => h6 v G' H' (x1.trans x') w' r'
      | bk δ' => exact h6.elim
      | ct δ' => exact h6.elim
      | er c fs δ' => exact fun d σ' G' H' _ w' x' sl' r' => h6 d G' H' (x1.trans x') w' r'
  refine wpAny_call (codeAny_mono run fun r s2 hq => ?_)
  cases r with
  | error e => exact passAt B.tk σ pins H1 s' e s2 I1 hq
  | ok fl =>
    cases fl with
    | ret u => exact I1.after hq
    | next => exact False.elim hq
    | brk => exact False.elim hq
    | cont => exact False.elim hq
end
end ME

/-! A built-in's == declines an own object; then the own __eq__ is asked. -/
namespace PySem
namespace MeDec
open PySem.W PySem.Calls PySem.Spec
open AutoSeq1 (wpAny_loadPart')
open MeetsSeq
section
variable {prog : Program} {w : World} {A : Around} {E : Value → Shared → Prop} {s : Shared} {K : Frag} {C : Addr} {od : Option Obj}
theorem inst_no {M : Model} {l : Addr} {o : Obj} {T : String} {Q : Bool → Shared → Prop} (X : K.In s.heap) (I : InstAt s.heap l o C od) (h : subIn K (.ref C) (.type T) = some false) (q : Q false s) : wpAny M A (isInstance (.ref l) (.type T)) Q E s := by
  unfold isInstance
  exact wpAny_bind (I.type.here ((looks_subIn X h).here q))
theorem dec_str (b : Str) (u : Tok) (l : Addr) (c : Value) (dd : Option Addr) (sl : Array (Option Value)) :
    Meets (Builtin.«str.__eq__» ⟨[.str b u, .ref l], []⟩) (fun _ R s => s.heap.get? l = some { cls := c, dict := dd, data := .plain, slots := sl } ∧ R (.ok (.ret .notImplemented)) s) :=
  .of_wp fun prog w A R s h => by obtain ⟨hp, g, d, tk, os⟩ := s; obtain ⟨hl, h⟩ := h; wp_walk using wpAny_loadPart' hl, wpAny_load hl; exact ⟨_, rfl, h⟩
theorem dec_int (b : Int) (u : Tok) (l : Addr) (c : Value) (dd : Option Addr) (sl : Array (Option Value)) :
    Meets (Builtin.«int.__eq__» ⟨[.int b u, .ref l], []⟩) (fun _ R s => s.heap.get? l = some { cls := c, dict := dd, data := .plain, slots := sl } ∧ R (.ok (.ret .notImplemented)) s) :=
  .of_wp fun prog w A R s h => by obtain ⟨hp, g, d, tk, os⟩ := s; obtain ⟨hl, h⟩ := h; wp_walk using wpAny_loadPart' hl, wpAny_load hl; exact ⟨_, rfl, h⟩
theorem dec_bool (b : Bool) (l : Addr) (c : Value) (dd : Option Addr) (sl : Array (Option Value)) :
    Meets (Builtin.«int.__eq__» ⟨[.bool b, .ref l], []⟩) (fun _ R s => s.heap.get? l = some { cls := c, dict := dd, data := .plain, slots := sl } ∧ R (.ok (.ret .notImplemented)) s) :=
  .of_wp fun prog w A R s h => by obtain ⟨hp, g, d, tk, os⟩ := s; obtain ⟨hl, h⟩ := h; wp_walk using wpAny_loadPart' hl, wpAny_load hl; exact ⟨_, rfl, h⟩
theorem dec_list (K : Frag) (C : Addr) (od : Option Obj) (o : Obj) (a : Addr) (items : Array Value) (n : Nat) (dd : Option Addr) (sl : Array (Option Value)) (l : Addr) (hs : subIn K (.ref C) (.type "list") = some false) :
    Meets (Builtin.«list.__eq__» ⟨[.ref a, .ref l], []⟩) (fun _ R s => s.heap.get? a = some { cls := .type "list", dict := dd, data := .seq items n, slots := sl } ∧ K.In s.heap ∧ InstAt s.heap l o C od ∧ R (.ok (.ret .notImplemented)) s) :=
  .of_wp fun prog w A R s h => by obtain ⟨hp, g, d, tk, os⟩ := s; obtain ⟨hl, X, I, h⟩ := h; wp_walk using wpAny_loadPart' hl, inst_no X I hs; exact ⟨_, rfl, h⟩
theorem dec_tuple (K : Frag) (C : Addr) (od : Option Obj) (o : Obj) (a : Addr) (items : Array Value) (n : Nat) (dd : Option Addr) (sl : Array (Option Value)) (l : Addr) (hs : subIn K (.ref C) (.type "tuple") = some false) :
    Meets (Builtin.«tuple.__eq__» ⟨[.ref a, .ref l], []⟩) (fun _ R s => s.heap.get? a = some { cls := .type "tuple", dict := dd, data := .seq items n, slots := sl } ∧ K.In s.heap ∧ InstAt s.heap l o C od ∧ R (.ok (.ret .notImplemented)) s) :=
  .of_wp fun prog w A R s h => by obtain ⟨hp, g, d, tk, os⟩ := s; obtain ⟨hl, X, I, h⟩ := h; wp_walk using wpAny_loadPart' hl, inst_no X I hs; exact ⟨_, rfl, h⟩
theorem rc_swap {a : Value} {Ta id : String} {b f : Addr} {ob : Obj} {Q : Value → Shared → Prop} (ha : s.TypeIs a Ta) (X : K.In s.heap) (I : InstAt s.heap b ob C od) (hsub : subIn K (.ref C) (.type Ta) = some false) (slot : Slot Ta (cmpInfo .Eq).2.1 id)
    (hdec : ∀ Q' : Value → Shared → Prop, Q' .notImplemented s → wpAny (model prog w) A (call (.builtin id) [a, .ref b]) Q' E s) (hs : findIn K (.ref C) "__eq__" = some (some (.ref f))) (hf : isFn K (.ref f) = true) (hu : A.units < cLine)
    (h : wpAny (model prog w) A (call (.ref f) [.ref b, a]) (CmpBack Q) E s) : wpAny (model prog w) A (richCompare .Eq a (.ref b)) Q E s := by
  rcases hi : cmpInfo CmpOp.Eq with ⟨sym, n1, n2⟩
  have hn2 : n2 = ("__eq__" : Str) := by cases hi; rfl
  rw [hi] at slot
  simp only [richCompare, hi, ha.oneThing_none]
  apply wpAny_holding
  apply wpAny_bind
  apply wpAny_cRoomFor hu
  refine wpAny_bind (wpAny_typeOf ha (wpAny_bind (I.type.here ?_)))
  simp only [show (Value.type Ta != Value.ref C) = true from rfl, if_true]
  refine wpAny_bind ((looks_subIn X hsub).here ?_)
  simp only [Bool.false_eq_true, if_false, Bool.not_false, if_true]
  refine wpAny_bind (m := tryCompare a _ (.ref b)) (wpAny_tryCompare_declines ha slot (hdec _ ⟨rfl, ?_⟩))
  have two : wpAny (model prog w) A (tryCompare (.ref b) n2 a) (fun r s' => ∃ v, r = some v ∧ Q v s') E s := by
    unfold tryCompare
    rw [hn2]
    refine wpAny_bind (ifBound_K X I hs hf (wpAny_mono h (fun v s' hv => ?_) fun _ _ e => e))
    cases v <;> first | exact hv.elim | exact wpAny_pure ⟨_, rfl, hv⟩
  refine wpAny_bind (wpAny_mono two (fun r s' hr => ?_) fun _ _ e => e)
  obtain ⟨v, rfl, q⟩ := hr
  exact wpAny_pure q
/-- == inside a built-in -/
theorem eqB_of {a : Value} {b : Addr} {Q : Bool → Shared → Prop} (hne : a ≠ .ref b) (h : wpAny (model prog w) A (richCompare .Eq a (.ref b)) (fun v s' => ∃ r, v = .bool r ∧ Q r s') E s) : wpAny (model prog w) A (eqBool a (.ref b)) Q E s := by
  unfold eqBool
  apply wpAny_holding
  refine wpAny_ite_split (fun hab => absurd (eq_of_beq hab) hne) (fun _ => ?_)
  have fin : ∀ {v : Value} {s' : Shared}, (∃ r, v = .bool r ∧ Q r s') → wpAny (model prog w) A (truthOfDropped v) Q E s' := fun {v s'} hv => by
    obtain ⟨r, rfl, q⟩ := hv
    exact wpAny_truthy_bool q
  have g : wpAny (model prog w) A (richCompare .Eq a (.ref b) >>= truthOfDropped) Q E s := wpAny_bind (wpAny_mono h (fun v s' hv => fin hv) fun _ _ x => x)
  cases a <;> exact g
/-! ### x in a list whose items are asked one by one -/
def InI (prog : Program) (w : World) (A : Around) (E : Value → Shared → Prop) (l : Addr) (x : Value) (N : Nat) (J : Nat → Shared → Prop) (T : Shared → Prop) : Prop :=
  ∀ i s, J i s → ∃ (items : Array Value) (n : Nat) (dd : Option Addr) (sl : Array (Option Value)), s.heap.get? l = some { cls := .type "list", dict := dd, data := .seq items n, slots := sl } ∧ items.size = N ∧
    ∀ (h : i < items.size), wpAny (model prog w) A.in1 (eqBool items[i] x) (fun r s' => if r = true then T s' else J (i + 1) s') E s
theorem in_loop {R : Result → Shared → Prop} {l : Addr} {x : Value} {N : Nat} {J : Nat → Shared → Prop} {T : Shared → Prop} (hI : InI prog w A (fun e s' => R (.error e) s') l x N J T) (yes : ∀ s, T s → R (.ok (.ret (.bool true))) s) (no : ∀ s, J N s → R (.ok (.ret (.bool false))) s) (k : Nat) :
    ∀ i : Nat, N - i = k → i ≤ N → ∀ s, J i s → wpAny (model prog w) A.in1 (Builtin.«list.__contains__.loop» ⟨[.ref l, x, rawInt i], []⟩) (GQ.FinOf prog w A R) (fun e s' => R (.error e) s') s := by
  induction k with
  | zero =>
    intro i hk hi s h
    obtain ⟨items, n, dd, sl, hl, hz, _⟩ := hI _ _ h
    have e : i = N := by omega
    have hR := no s (e ▸ h)
    obtain ⟨hp, g, d, tk, os⟩ := s
    wp_walk using wpAny_loadPart' hl
    have hi : items[((i : Nat) : Int).toNat]? = none := by simp; omega
    rw [hi]
    wp_walk
    exact hR
  | succ k ih =>
    intro i hk hi s h
    obtain ⟨items, n, dd, sl, hl, hz, turn⟩ := hI _ _ h
    have hlt : i < items.size := by omega
    have ht := turn hlt
    obtain ⟨hp, g, d, tk, os⟩ := s
    wp_walk using wpAny_loadPart' hl
    have hi1 : items[((i : Nat) : Int).toNat]? = some items[i] := by simp [hlt]
    have hc : ((i : Int) + 1) = ((i + 1 : Nat) : Int) := by omega
    rw [hi1]
    refine wpAny_bind (wpAny_mono ht (fun r s2 h2 => ?_) fun _ _ x => x)
    cases r with
    | true =>
      have hR := yes s2 h2
      obtain ⟨hp2, g2, d2, tk2, os2⟩ := s2
      wp_walk
      exact hR
    | false =>
      have hrec := ih (i + 1) (by omega) (by omega) s2 h2
      obtain ⟨hp2, g2, d2, tk2, os2⟩ := s2
      wp_walk
      rw [hc]
      exact ⟨plainId_quiet plain_contains_loop _, codeAny_builtin entry_contains_loop (by
        rw [Around.under_plainId plain_contains_loop _]
        exact hrec)⟩
theorem in_call {l : Addr} {x : Value} {N : Nat} {J : Nat → Shared → Prop} {T : Shared → Prop} {Q : Value → Shared → Prop} (hI : InI prog w A E l x N J T) (yes : ∀ s, T s → Q (.bool true) s) (no : ∀ s, J N s → Q (.bool false) s) (h : J 0 s) :
    wpAny (model prog w) A (call (.builtin "list.__contains__") [.ref l, x]) Q E s := by
  obtain ⟨items, n, dd, sl, hl, hz, _⟩ := hI _ _ h
  refine GQ.call_here F.slot_list_contains ⟨_, hl, rfl⟩ F.entry_list_contains (F.args_list_contains_2 _ _) ?_
  have hlp := in_loop (A := A) (R := wants Q E) hI yes no N 0 rfl (Nat.zero_le _) s h
  obtain ⟨hp, g, d, tk, os⟩ := s
  wp_walk using wpAny_loadPart' hl
  exact ⟨plainId_quiet plain_contains_loop _, codeAny_builtin entry_contains_loop (by
    rw [Around.under_plainId plain_contains_loop _]
    exact hlp)⟩
theorem in_run {l : Addr} {x : Value} {N : Nat} {J : Nat → Shared → Prop} {T : Shared → Prop} {Q : Value → Shared → Prop} (hI : InI prog w A E l x N J T) (yes : ∀ s, T s → Q (.bool true) s) (no : ∀ s, J N s → Q (.bool false) s) (h : J 0 s) :
    wpAny (model prog w) A (compareOp .In x (.ref l)) Q E s := by
  obtain ⟨items, n, dd, sl, hl, hz, _⟩ := hI _ _ h
  show wpAny _ A (do return .bool (← contains (.ref l) x)) Q E s
  have cs := in_call (Q := fun v s' => ∃ b, v = .bool b ∧ Q (.bool b) s') hI (fun s t => ⟨true, rfl, yes s t⟩) (fun s t => ⟨false, rfl, no s t⟩) h
  refine wpAny_bind (wpAny_contains_slot ⟨_, hl, rfl⟩ F.slot_list_contains (wpAny_mono cs (fun v s' hv => ?_) fun _ _ e => e))
  obtain ⟨b, rfl, hq⟩ := hv
  exact wpAny_truthy_bool (wpAny_pure hq)
theorem nin_run {l : Addr} {x : Value} {N : Nat} {J : Nat → Shared → Prop} {T : Shared → Prop} {Q : Value → Shared → Prop} (hI : InI prog w A E l x N J T) (yes : ∀ s, T s → Q (.bool false) s) (no : ∀ s, J N s → Q (.bool true) s) (h : J 0 s) :
    wpAny (model prog w) A (compareOp .NotIn x (.ref l)) Q E s := by
  obtain ⟨items, n, dd, sl, hl, hz, _⟩ := hI _ _ h
  show wpAny _ A (do return .bool (!(← contains (.ref l) x))) Q E s
  have cs := in_call (Q := fun v s' => ∃ b, v = .bool b ∧ Q (.bool (!b)) s') hI (fun s t => ⟨true, rfl, yes s t⟩) (fun s t => ⟨false, rfl, no s t⟩) h
  refine wpAny_bind (wpAny_contains_slot ⟨_, hl, rfl⟩ F.slot_list_contains (wpAny_mono cs (fun v s' hv => ?_) fun _ _ e => e))
  obtain ⟨b, rfl, hq⟩ := hv
  exact wpAny_truthy_bool (wpAny_pure hq)
end
end MeDec
end PySem

/-! x in a list of any things, x of an own class. -/
namespace ME
open PySem PySem.Spec PyProof.Rows L2
def flatDiff : D → D → Bool
  | .str a, .str b => a != b
  | .int a, .int b => a != b
  | _, _ => false
def dDiff : D → D → Bool
  | .obj c fs, .obj c' gs => c == c' && (fs.zip gs).any fun q => flatDiff q.1 q.2
  | _, _ => false
theorem rep_flatDiff {S : Sg} {G : Hp} {pen : Addr} {v : V} {d e : D} (h1 : Rep S G pen v d) (h2 : Rep S G pen v e) (h : flatDiff d e = true) : False := by
  cases d with
  | str a => cases e with
    | str b => cases h1; cases h2; simp [flatDiff] at h
    | _ => simp [flatDiff] at h
  | int a => cases e with
    | int b => cases h1; cases h2; simp [flatDiff] at h
    | _ => simp [flatDiff] at h
  | _ => simp [flatDiff] at h
theorem reps_diff {S : Sg} {G : Hp} {pen : Addr} : ∀ {vs : List V} {ds es : List D}, Reps S G pen vs ds → Reps S G pen vs es → ((ds.zip es).any fun q => flatDiff q.1 q.2) = true → False
  | _, _, _, .nil, .nil, h => by simp at h
  | _, _, _, .cons a r, .cons b q, h => by
    simp only [List.zip_cons_cons, List.any_cons, Bool.or_eq_true] at h
    rcases h with h | h
    · exact rep_flatDiff a b h
    · exact reps_diff r q h
theorem zip_snd {α β : Type} : ∀ {l : List α} {a b : List β}, a.length = l.length → b.length = l.length → l.zip a = l.zip b → a = b
  | [], [], [], _, _, _ => rfl
  | [], _ :: _, _, h, _, _ => by simp at h
  | [], [], _ :: _, _, h, _ => by simp at h
  | _ :: l, [], _, h, _, _ => by simp at h
  | _ :: l, _ :: _, [], _, h, _ => by simp at h
  | x :: l, y :: a, z :: b, h1, h2, h => by
    simp only [List.zip_cons_cons, List.cons.injEq, Prod.mk.injEq, true_and] at h
    rw [h.1, zip_snd (by simpa using h1) (by simpa using h2) h.2]
theorem rep_diff {S : Sg} {G : Hp} {pen : Addr} {v : V} {d e : D} (h1 : Rep S G pen v d) (h2 : Rep S G pen v e) (h : dDiff d e = true) : False := by
  cases d with
  | obj c fs =>
    cases e with
    | obj c' gs =>
      simp only [dDiff, Bool.and_eq_true, beq_iff_eq] at h
      obtain ⟨rfl, h⟩ := h
      cases h1 with
      | obj e1 l1 r1 =>
        cases h2 with
        | obj e2 l2 r2 =>
          rw [e1] at e2
          have e3 := Option.some.inj e2
          injection e3 with _ _ e4
          have e5 := zip_snd l1 l2 e4
          subst e5
          exact reps_diff r1 r2 h
    | _ => simp [dDiff] at h
  | _ => simp [dDiff] at h
def bNo (f : M D) : M Bool := f.calm.bnd fun d => match d with
  | .bl false => M.ret false
  | _ => M.stuck
def bAny (f : M D) : M Bool := f.calm.bnd fun d => match d with
  | .bl b => M.ret b
  | _ => M.stuck
/-- an item == x inside a built-in; x of the own class c whose __eq__ is mf -/
def eqIt (tbl : OTab) (os : List Nat) (mf : List D → M D) (c : Nat) (x : D) : D → M Bool
  | .obj c' gs => match tbl.lookup c' with
    | some mi => if os.contains c && dDiff (.obj c' gs) x then bNo (mi [.obj c' gs, x]) else M.stuck
    | none => M.stuck
  | .non => bAny (mf [x, .non])
  | .str y => bAny (mf [x, .str y])
  | .int y => bAny (mf [x, .int y])
  | .bl y => bAny (mf [x, .bl y])
  | .tup y => bAny (mf [x, .tup y])
  | .lst y => bAny (mf [x, .lst y])
  | _ => M.stuck
def inGo (e : D → M Bool) : List D → M Bool
  | [] => M.ret false
  | d :: r => (e d).bnd fun b => if b = true then M.ret true else inGo e r
def dInO (neg : Bool) (tbl : OTab) (os : List Nat) : D → D → M D
  | .obj c fs, .lst l => match tbl.lookup c with
    | some mf => (inGo (eqIt tbl os mf c (.obj c fs)) l).bnd fun b => M.ret (.bl (if neg then !b else b))
    | none => M.stuck
  | x, y => dIn neg x y
/-- the classes that no built-in with an own == is a base of -/
def sepB (K : PySem.W.Frag) (S : Sg) (cs : List Nat) : Bool := cs.all fun c => (["NoneType", "str", "int", "bool", "tuple", "list"] : List String).all fun T => PySem.W.subIn K (.ref (S.ca c)) (.type T) == some false
theorem bAny_calm {f : M D} {p p1 : Pn} {c : Nat} {gs : List D} (h : bAny f p = some (.ex c gs, p1)) : False := by
  dsimp only [bAny, M.bnd, M.calm] at h
  rcases e : f p with _ | ⟨o, p2⟩
  · rw [e] at h; cases h
  · rw [e] at h
    cases o with
    | ex _ _ => cases h
    | ok d => cases d <;> cases h
theorem bNo_calm {f : M D} {p p1 : Pn} {c : Nat} {gs : List D} (h : bNo f p = some (.ex c gs, p1)) : False := by
  dsimp only [bNo, M.bnd, M.calm] at h
  rcases e : f p with _ | ⟨o, p2⟩
  · rw [e] at h; cases h
  · rw [e] at h
    cases o with
    | ex _ _ => cases h
    | ok d => 
      cases d with
      | bl b => cases b <;> cases h
      | _ => cases h
theorem eqIt_calm {tbl : OTab} {os : List Nat} {mf : List D → M D} {c c' : Nat} {x d : D} {gs : List D} {p p1 : Pn} (h : eqIt tbl os mf c x d p = some (.ex c' gs, p1)) : False := by
  cases d with
  | obj c2 hs =>
    dsimp only [eqIt] at h
    cases e : tbl.lookup c2 with
    | none => rw [e] at h; cases h
    | some mi =>
      rw [e] at h
      dsimp only at h
      split at h
      · exact bNo_calm h
      · cases h
  | non => exact bAny_calm h
  | str y => exact bAny_calm h
  | int y => exact bAny_calm h
  | bl y => exact bAny_calm h
  | tup y => exact bAny_calm h
  | lst y => exact bAny_calm h
  | _ => cases h
theorem inGo_calm {tbl : OTab} {os : List Nat} {mf : List D → M D} {c c' : Nat} {x : D} {gs : List D} : ∀ {l : List D} {p p1 : Pn}, inGo (eqIt tbl os mf c x) l p = some (.ex c' gs, p1) → False
  | [], p, p1, h => by cases h
  | d :: r, p, p1, h => by
    dsimp only [inGo, M.bnd] at h
    rcases e : eqIt tbl os mf c x d p with _ | ⟨o, p2⟩
    · rw [e] at h; cases h
    · rw [e] at h
      cases o with
      | ex c3 g3 => exact eqIt_calm e
      | ok b =>
        cases b with
        | true => cases h
        | false => exact inGo_calm h
section
variable {X : Cx} {m : Am} {j k c : Nat} {tbl : OTab} {os : List Nat}
theorem own1 {mf : List D → M D} {f : Addr} {fd : FuncData} {ps : List Str} {pins : List (Addr × Obj)} {s : Shared} {σ : L2.St} {G H : Hp} {p : Pn} {x y : V} {u v : Value} {dx dy : D} {Q : Bool → Hp → Prop} {QB : Value → Shared → Prop} (B : Bx X m j) (F : FnG X.prog X.w X.K X.mg X.base k f fd ps (spM m.S mf)) (hb : Bd X.K fd ps 2 [] [] ((List.range 2).map .p)) (hk : Nat.ble (k + 1) j = true)
    (I : Inv X pins σ H s) (w : Wd m.S m.pen G H p) (r1 : Rep m.S G m.pen x dx) (r2 : Rep m.S G m.pen y dy) (rx : RelV x u) (ry : RelV y v) (h : Post m.S m.pen rB G H Q (fun _ _ _ => False) (bAny (mf [dx, dy]) p)) (hQ : ∀ b H' s', Inv X pins σ H' s' → Q b H' → QB (.bool b) s') :
    wpAny (model X.prog X.w) X.A.in1 (call (.ref f) [u, v]) (PySem.W.CmpBack QB) X.xe s := by
  obtain ⟨its, vd, bd⟩ := hb.ex
  cases vd
  have bt := bd s [u, v] [] I.kIn rfl rfl
  have hr : Room (k + 1) X.A := B.hr.mono (Nat.le_of_ble_eq_true hk)
  have sp : spM m.S mf [x, y] H (fun z H' => ∃ b, z = .bl b ∧ Q b H') (fun _ _ _ => False) := by
    refine ⟨m.pen, G, p, _, w, .cons r1 (.cons r2 .nil), ?_⟩
    dsimp only [bAny, M.bnd, M.calm] at h
    rcases e : mf [dx, dy] p with _ | ⟨o, p1⟩
    · rw [e] at h; exact h
    · rw [e] at h
      cases o with
      | ex c fs => exact h.elim
      | ok d =>
        intro z G' H' x' w' r
        have r : Rep m.S G' m.pen z d := r
        cases r with
        | bl b => exact ⟨b, rfl, h b G' H' x' w' rfl⟩
        | _ => exact h.elim
  refine wpAny_call (codeAny_mono (F.run X.A.in1 X.stack s H ⟨[u, v], []⟩ [u, v] [x, y] _ (fun _ _ _ => False) B.hq hr.in1 I.env0.in1 bt (.cons rx (.cons ry .nil)) sp) fun r s' hq => ?_)
  cases r with
  | error e => exact B.pf pins σ H s e s' I hq
  | ok fl =>
    cases fl with
    | ret z =>
      obtain ⟨v', H', I', rv', b, eb, q⟩ := I.after hq
      subst eb
      cases (show z = Value.bool b from rv')
      exact hQ b H' s' I' q
    | next => exact False.elim hq
    | brk => exact False.elim hq
    | cont => exact False.elim hq
theorem bNo_any {G H : Hp} {Q : Bool → Hp → Prop} {E : XK} {f : M D} {p : Pn} (h : Post m.S m.pen rB G H Q E (bNo f p)) : Post m.S m.pen rB G H Q E (bAny f p) := by
  dsimp only [bNo, bAny, M.bnd, M.calm] at h ⊢
  rcases e : f p with _ | ⟨o, p1⟩
  · rw [e] at h; exact h
  · rw [e] at h
    cases o with
    | ex c fs => exact h
    | ok d =>
      cases d with
      | bl b =>
        cases b with
        | false => exact h
        | true => exact h.elim
      | _ => exact h.elim
theorem eq_item {mf : List D → M D} {pins : List (Addr × Obj)} {s : Shared} {σ : L2.St} {G H : Hp} {p : Pn} {a : Addr} {fs : List D} {v : V} {u : Value} {d : D} {Q : Bool → Hp → Prop} (B : Bx X m j) (T : ∀ c mf, tbl.lookup c = some mf → OwnT X.prog X.w X.K X.mg X.base m.S k c "__eq__" 2 mf) (hk : Nat.ble (k + 1) j = true)
    (hcs : ∀ c mf, tbl.lookup c = some mf → sepB m.S.K m.S [c] = true ∧ ∀ c' ∈ os, PySem.W.notFirst m.S.K (m.S.ca c) (.ref (m.S.ca c')) = true) (hc : tbl.lookup c = some mf)
    (I : Inv X pins σ H s) (w : Wd m.S m.pen G H p) (ra : Rep m.S G m.pen (.ref a) (.obj c fs)) (rd : Rep m.S G m.pen v d) (rv : RelV v u)
    (h : Post m.S m.pen rB G H Q (fun _ _ _ => False) (eqIt tbl os mf c (.obj c fs) d p)) :
    wpAny (model X.prog X.w) X.A.in1 (eqBool u (.ref a)) (fun r s' => ∃ H', Inv X pins σ H' s' ∧ Q r H') X.xe s := by
  obtain ⟨f, fd, ps, F, hs, hf, hb⟩ := T c mf hc
  have hsep := (hcs c mf hc).1
  unfold sepB at hsep
  simp only [List.all_cons, List.all_nil, Bool.and_true, Bool.and_eq_true, beq_iff_eq] at hsep
  rw [← B.hK] at hsep
  obtain ⟨sN, sS, sI, sB, sT, sL⟩ := hsep
  have hr : Room (k + 1) X.A := B.hr.mono (Nat.le_of_ble_eq_true hk)
  have hu : X.A.in1.units < cLine := by have := hr.units; show X.A.units + 1 < cLine; omega
  cases id ra with
  | @obj _ dx _ vs _ ha hl rr =>
    obtain ⟨od, J⟩ := insInst I (w.sub _ _ ha)
    have fin : ∀ b H' s', Inv X pins σ H' s' → Q b H' → ∃ r, Value.bool b = .bool r ∧ ∃ H', Inv X pins σ H' s' ∧ Q r H' := fun b H' s' I' q => ⟨b, rfl, H', I', q⟩
    cases id rd with
    | non =>
      cases (show u = Value.none from rv)
      exact PySem.MeDec.eqB_of (fun z => by cases z) (PySem.MeDec.rc_swap (Ta := "NoneType") rfl I.kIn J sN PySem.F.slot_NoneType_eq (fun _ hq => call_gives PySem.F.slot_NoneType_eq rfl PySem.F.entry_NoneType_eq (PySem.F.args_NoneType_eq_2 _ _) (SeqAt.NoneType___eq___none_ref_0 a) hq) hs hf hu (own1 B F hb hk I w ra rd rfl rv h fin))
    | bl b =>
      cases (show u = Value.bool b from rv)
      exact PySem.MeDec.eqB_of (fun z => by cases z) (PySem.MeDec.rc_swap (Ta := "bool") rfl I.kIn J sB PySem.F.slot_bool_eq (fun _ hq => call_meets PySem.F.slot_bool_eq rfl PySem.F.entry_int_eq (PySem.F.args_int_eq_2 _ _) (PySem.MeDec.dec_bool b a _ _ _) ⟨J.at_, hq⟩) hs hf hu (own1 B F hb hk I w ra rd rfl rv h fin))
    | int b =>
      obtain ⟨t, rfl⟩ := (show ∃ t, u = Value.int b t from rv)
      exact PySem.MeDec.eqB_of (fun z => by cases z) (PySem.MeDec.rc_swap (Ta := "int") (typeIs_int s b t) I.kIn J sI PySem.F.slot_int_eq (fun _ hq => call_meets PySem.F.slot_int_eq (typeIs_int s b t) PySem.F.entry_int_eq (PySem.F.args_int_eq_2 _ _) (PySem.MeDec.dec_int b t a _ _ _) ⟨J.at_, hq⟩) hs hf hu (own1 B F hb hk I w ra rd rfl rv h fin))
    | str b =>
      obtain ⟨t, rfl⟩ := (show ∃ t, u = Value.str b t from rv)
      exact PySem.MeDec.eqB_of (fun z => by cases z) (PySem.MeDec.rc_swap (Ta := "str") (typeIs_str s b t) I.kIn J sS PySem.F.slot_str_eq (fun _ hq => call_meets PySem.F.slot_str_eq (typeIs_str s b t) PySem.F.entry_str_eq (PySem.F.args_str_eq_2 _ _) (PySem.MeDec.dec_str b t a _ _ _) ⟨J.at_, hq⟩) hs hf hu (own1 B F hb hk I w ra rd rfl rv h fin))
    | @tup b us ds hq rq =>
      cases (show u = Value.ref b from rv)
      have hq' := w.sub.sqt hq
      rw [← B.hK] at hq'
      obtain ⟨its, r, pl, hz⟩ := I.tuple hq'
      obtain ⟨⟨cls, dd, data, sl⟩, ho, hcl, n, hd⟩ := id pl
      simp only at hcl hd
      subst hcl hd
      have hne : Value.ref b ≠ Value.ref a := fun z => by
        injection z with z
        have e1 := J.at_
        rw [← z, ho] at e1
        cases e1
      exact PySem.MeDec.eqB_of hne (PySem.MeDec.rc_swap (Ta := "tuple") ⟨_, ho, rfl⟩ I.kIn J sT PySem.F.slot_tuple_eq (fun _ hq => call_meets PySem.F.slot_tuple_eq ⟨_, ho, rfl⟩ PySem.F.entry_tuple_eq (PySem.F.args_tuple_eq_2 _ _) (PySem.MeDec.dec_tuple X.K _ _ _ b _ _ _ _ a sT) ⟨ho, I.kIn, J, hq⟩) hs hf hu (own1 B F hb hk I w ra rd rfl rv h fin))
    | @lst b us ds hq rq =>
      cases (show u = Value.ref b from rv)
      obtain ⟨its, r, pl, hz⟩ := I.list (.inl (.of (w.sub _ _ hq)))
      obtain ⟨⟨cls, dd, data, sl⟩, ho, hcl, n, hd⟩ := id pl.isList
      simp only at hcl hd
      subst hcl hd
      have hne : Value.ref b ≠ Value.ref a := fun z => by
        injection z with z
        have e1 := J.at_
        rw [← z, ho] at e1
        cases e1
      exact PySem.MeDec.eqB_of hne (PySem.MeDec.rc_swap (Ta := "list") ⟨_, ho, rfl⟩ I.kIn J sL PySem.F.slot_list_eq (fun _ hq => call_meets PySem.F.slot_list_eq ⟨_, ho, rfl⟩ PySem.F.entry_list_eq (PySem.F.args_list_eq_2 _ _) (PySem.MeDec.dec_list X.K _ _ _ b _ _ _ _ a sL) ⟨ho, I.kIn, J, hq⟩) hs hf hu (own1 B F hb hk I w ra rd rfl rv h fin))
    | @obj b dy c' us ds hq hlq rq =>
      cases (show u = Value.ref b from rv)
      dsimp only [eqIt] at h
      cases e : tbl.lookup c' with
      | none => rw [e] at h; exact h.elim
      | some mi =>
        rw [e] at h
        dsimp only at h
        split at h
        · rename_i hz
          simp only [Bool.and_eq_true, List.contains_eq_mem, decide_eq_true_eq] at hz
          obtain ⟨f', fd', ps', F', hs', hf', hb'⟩ := T c' mi e
          obtain ⟨od', J'⟩ := insInst I (w.sub _ _ hq)
          obtain ⟨m', hF⟩ := I.fr
          have hne : Value.ref b ≠ Value.ref a := fun z => by
            injection z with z
            subst z
            exact rep_diff rd ra hz.2
          refine PySem.MeDec.eqB_of hne (PySem.W.cmp_K (op := .Eq) (tb := .ref (m.S.ca c)) hu hF I.ok.mod.kin J' J.type ?_ hs' hf' (own1 B F' hb' hk I w rd ra rfl rfl (bNo_any h) fin))
          rw [B.hK]
          exact (hcs c' mi e).2 c hz.1
        · exact h.elim
    | _ => exact h.elim
theorem post_in {G H : Hp} {QB : Bool → Hp → Prop} {e : D → M Bool} {d : D} {r : List D} {p : Pn} (h : Post m.S m.pen rB G H QB (fun _ _ _ => False) (inGo e (d :: r) p)) :
    Post m.S m.pen rB G H (fun b H' => if b = true then QB true H' else ∃ G' p', Wd m.S m.pen G' H' p' ∧ Ex m.pen G H G' H' ∧ Post m.S m.pen rB G' H' QB (fun _ _ _ => False) (inGo e r p')) (fun _ _ _ => False) (e d p) := by
  dsimp only [inGo, M.bnd] at h
  rcases he : e d p with _ | ⟨o, p1⟩
  · rw [he] at h; exact h
  · rw [he] at h
    cases o with
    | ex c fs => exact h
    | ok b =>
      intro b' G' H' x' w' hb
      have hb : b' = b := hb
      subst hb
      cases b' with
      | true => exact h true G' H' x' w' rfl
      | false => exact ⟨G', p1, w', x', Post.ex x' h⟩
def rInO (m : Am) (neg : Bool) (tbl : OTab) (os : List Nat) : R2 := fun x y H Q => ∃ G p c fs ds mf, Wd m.S m.pen G H p ∧ Rep m.S G m.pen x (.obj c fs) ∧ Rep m.S G m.pen y (.lst ds) ∧ tbl.lookup c = some mf ∧
  Post m.S m.pen rB G H (fun b H' => Q (.bl (if neg then !b else b)) H') (fun _ _ _ => False) (inGo (eqIt tbl os mf c (.obj c fs)) ds p)
theorem op_inO {neg : Bool} (B : Bx X m j) (T : ∀ c mf, tbl.lookup c = some mf → OwnT X.prog X.w X.K X.mg X.base m.S k c "__eq__" 2 mf) (hk : Nat.ble (k + 1) j = true)
    (hcs : ∀ c mf, tbl.lookup c = some mf → sepB m.S.K m.S [c] = true ∧ ∀ c' ∈ os, PySem.W.notFirst m.S.K (m.S.ca c) (.ref (m.S.ca c')) = true) : OpR X (compareOp (if neg then .NotIn else .In)) (rInO m neg tbl os) := by
  intro pins s σ H x y v u Q I rx ry h
  obtain ⟨G, p, c, fs, ds, mf, w, r1, r2, hc, h⟩ := h
  cases id r1 with
  | @obj a dx _ vs0 _ ha hl rr =>
    cases (show v = Value.ref a from rx)
    cases id r2 with
    | @lst l vs _ hL rL =>
      cases (show u = Value.ref l from ry)
      have nl : l ≠ m.pen := fun z => by rw [z, w.np] at hL; cases hL
      have J : ∀ i s', (∃ G' H' p', Wd m.S m.pen G' H' p' ∧ Ex m.pen G H G' H' ∧ Inv X pins σ H' s' ∧ Post m.S m.pen rB G' H' (fun b H' => Q (.bl (if neg then !b else b)) H') (fun _ _ _ => False) (inGo (eqIt tbl os mf c (.obj c fs)) (ds.drop i) p')) →
          ∃ (items : Array Value) (n : Nat) (dd : Option Addr) (sl : Array (Option Value)), s'.heap.get? l = some { cls := .type "list", dict := dd, data := .seq items n, slots := sl } ∧ items.size = ds.length ∧
            ∀ (h : i < items.size), wpAny (model X.prog X.w) X.A.in1 (eqBool items[i] (.ref a)) (fun r s'' => if r = true then (∃ H', Inv X pins σ H' s'' ∧ Q (.bl (if neg then !true else true)) H') else
              ∃ G' H' p', Wd m.S m.pen G' H' p' ∧ Ex m.pen G H G' H' ∧ Inv X pins σ H' s'' ∧ Post m.S m.pen rB G' H' (fun b H' => Q (.bl (if neg then !b else b)) H') (fun _ _ _ => False) (inGo (eqIt tbl os mf c (.obj c fs)) (ds.drop (i + 1)) p')) X.xe s' := fun i s' hJ => by
        obtain ⟨G', H', p', w', x', I', h'⟩ := hJ
        obtain ⟨its, r, pl, hz⟩ := I'.list (.inl (.of (x'.keep l _ nl (by intro _ z; cases z) (w.sub _ _ hL))))
        obtain ⟨⟨cls, dd, data, sl⟩, ho, hcl, n, hd⟩ := id pl.isList
        simp only at hcl hd
        subst hcl hd
        have hlen : its.length = ds.length := by rw [← r.length, rL.length]
        refine ⟨its.toArray, n, dd, sl, ho, by simpa using hlen, fun hi => ?_⟩
        have hi' : i < ds.length := by rw [← hlen]; simpa using hi
        have ed : ds.drop i = ds[i] :: ds.drop (i + 1) := List.drop_eq_getElem_cons hi'
        rw [ed] at h'
        obtain ⟨vi, e1, rv⟩ := rL.get (List.getElem?_eq_getElem hi')
        obtain ⟨ui, e2, ru⟩ := r.get e1
        have e3 : its.toArray[i] = ui := by
          have : its[i]? = some ui := e2
          simp only [List.getElem_toArray]
          exact (List.getElem?_eq_some_iff.mp this).2
        rw [e3]
        refine wpAny_mono (eq_item B T hk hcs hc I' w' (r1.mono x'.sub) (rv.mono x'.sub) ru (post_in h')) (fun b s'' hb => ?_) fun _ _ z => z
        obtain ⟨H'', I'', hq⟩ := hb
        cases b with
        | true => exact ⟨H'', I'', hq⟩
        | false =>
          obtain ⟨G2, p2, w2, x2, h2⟩ := hq
          exact ⟨G2, H'', p2, w2, x'.trans x2, I'', h2⟩
      have start : ∃ G' H' p', Wd m.S m.pen G' H' p' ∧ Ex m.pen G H G' H' ∧ Inv X pins σ H' s ∧ Post m.S m.pen rB G' H' (fun b H' => Q (.bl (if neg then !b else b)) H') (fun _ _ _ => False) (inGo (eqIt tbl os mf c (.obj c fs)) (ds.drop 0) p') := ⟨G, H, p, w, Ex.refl, I, h⟩
      have no : ∀ s', (∃ G' H' p', Wd m.S m.pen G' H' p' ∧ Ex m.pen G H G' H' ∧ Inv X pins σ H' s' ∧ Post m.S m.pen rB G' H' (fun b H' => Q (.bl (if neg then !b else b)) H') (fun _ _ _ => False) (inGo (eqIt tbl os mf c (.obj c fs)) (ds.drop ds.length) p')) → ∃ H', Inv X pins σ H' s' ∧ Q (.bl (if neg then !false else false)) H' := fun s' hJ => by
        obtain ⟨G', H', p', w', x', I', h'⟩ := hJ
        rw [List.drop_length] at h'
        exact ⟨H', I', h' false G' H' Ex.refl w' rfl⟩
      cases neg with
      | false => exact PySem.MeDec.in_run (N := ds.length) J (fun s' ⟨H', I', q⟩ => ⟨.bl true, H', I', rfl, q⟩) (fun s' hJ => by obtain ⟨H', I', q⟩ := no s' hJ; exact ⟨.bl false, H', I', rfl, q⟩) start
      | true => exact PySem.MeDec.nin_run (N := ds.length) J (fun s' ⟨H', I', q⟩ => ⟨.bl false, H', I', rfl, q⟩) (fun s' hJ => by obtain ⟨H', I', q⟩ := no s' hJ; exact ⟨.bl true, H', I', rfl, q⟩) start
theorem r_inO {neg : Bool} {r : R2} (hr : R2Ok m r (dIn neg)) : R2Ok m (fun x y H Q => r x y H Q ∨ rInO m neg tbl os x y H Q) (dInO neg tbl os) := by
  rintro σ x y H Q ⟨G, p, δ, ⟨⟨u, dx⟩, dy⟩, w, sl, ⟨⟨_, rx⟩, ry⟩, h⟩
  have rx : Rep m.S G m.pen x dx := rx
  have ry : Rep m.S G m.pen y dy := ry
  have back : dInO neg tbl os dx dy = dIn neg dx dy → r x y H Q := fun e => by
    refine hr σ x y H Q ⟨G, p, δ, ⟨⟨u, dx⟩, dy⟩, w, sl, ⟨⟨trivial, rx⟩, ry⟩, ?_⟩
    dsimp only at h ⊢
    rw [e] at h
    exact h
  cases dx with
  | obj c fs =>
    cases dy with
    | lst l =>
      right
      dsimp only [dInO] at h
      cases e : tbl.lookup c with
      | none => rw [e] at h; exact h.elim
      | some mf =>
        rw [e] at h
        refine ⟨G, p, c, fs, l, mf, w, rx, ry, e, ?_⟩
        dsimp only [M.bnd] at h
        rcases he : inGo (eqIt tbl os mf c (.obj c fs)) l p with _ | ⟨o, p1⟩
        · rw [he] at h; exact h
        · rw [he] at h
          cases o with
          | ok b =>
            intro b' G' H' x' w' hb
            have hb : b' = b := hb
            subst hb
            exact h _ G' H' x' w' (.bl _)
          | ex c' gs =>
            -- the items are asked calmly
            exact (inGo_calm he).elim
    | _ => exact .inl (back rfl)
  | _ => exact .inl (back rfl)
theorem nf_of {cs : List Nat} (hc : cs = tbl.map (·.1)) (nf : nfB m.S.K m.S cs os = true) (sp : sepB m.S.K m.S cs = true) : ∀ c mf, tbl.lookup c = some mf → sepB m.S.K m.S [c] = true ∧ ∀ c' ∈ os, PySem.W.notFirst m.S.K (m.S.ca c) (.ref (m.S.ca c')) = true := fun c mf e => by
  have hm : c ∈ cs := by rw [hc]; exact List.mem_map.mpr ⟨_, mem_of_lookup e, rfl⟩
  unfold nfB at nf
  have q := List.all_eq_true.mp nf c hm
  simp only [Bool.and_eq_true, List.all_eq_true] at q
  refine ⟨?_, q.2⟩
  unfold sepB at sp ⊢
  have q2 := List.all_eq_true.mp sp c hm
  simpa using q2
theorem c_inO {cs : List Nat} (B : Bx X m j) (T : ∀ c mf, tbl.lookup c = some mf → OwnT X.prog X.w X.K X.mg X.base m.S k c "__eq__" 2 mf) (hk : Nat.ble (k + 1) j = true) (hcs : cs = tbl.map (·.1)) (nf : nfB m.S.K m.S cs os = true) (sp : sepB m.S.K m.S cs = true) : CmpT X m .In (dInO false tbl os) := by
  obtain ⟨r, h1, h2⟩ := (c_in (X := X) (m := m) B).ex
  exact ⟨_, OpR.or h1 (op_inO (neg := false) B T hk (nf_of hcs nf sp)), r_inO h2⟩
theorem c_ninO {cs : List Nat} (B : Bx X m j) (T : ∀ c mf, tbl.lookup c = some mf → OwnT X.prog X.w X.K X.mg X.base m.S k c "__eq__" 2 mf) (hk : Nat.ble (k + 1) j = true) (hcs : cs = tbl.map (·.1)) (nf : nfB m.S.K m.S cs os = true) (sp : sepB m.S.K m.S cs = true) : CmpT X m .NotIn (dInO true tbl os) := by
  obtain ⟨r, h1, h2⟩ := (c_nin (X := X) (m := m) B).ex
  exact ⟨_, OpR.or h1 (op_inO (neg := true) B T hk (nf_of hcs nf sp)), r_inO h2⟩
end
end ME

/-! Defs with defaults; members of own classes; constants of a class; str of an own object. -/
namespace ME
open PySem PySem.Spec PyProof.Rows L2
/-! ### defaults -/
def dvV : D → V
  | .bl b => .bl b
  | .int i => .int i
  | .str x => .str x
  | _ => .non
def dvIs : D → Value → Bool
  | .non, .none => true
  | .bl b, .bool c => b == c
  | .int i, .int j _ => i == j
  | .str x, .str y _ => x == y
  | _, _ => false
def dvFlat : D → Bool
  | .non => true
  | .bl _ => true
  | .int _ => true
  | .str _ => true
  | _ => false
theorem dv_rel {d : D} {u : Value} (h : dvIs d u = true) : RelV (dvV d) u := by
  cases d with
  | non => cases u <;> first | rfl | cases h
  | bl b => cases u <;> first | (have : b = _ := beq_iff_eq.mp h; subst this; rfl) | cases h
  | int b => cases u <;> first | (have : b = _ := beq_iff_eq.mp h; subst this; exact ⟨_, rfl⟩) | cases h
  | str b => cases u <;> first | (have : b = _ := beq_iff_eq.mp h; subst this; exact ⟨_, rfl⟩) | cases h
  | _ => cases u <;> cases h
theorem dv_rep {S : Sg} {G : Hp} {pen : Addr} {d : D} (h : dvFlat d = true) : Rep S G pen (dvV d) d := by
  cases d with
  | non => exact .non
  | bl b => exact .bl b
  | int b => exact .int b
  | str b => exact .str b
  | _ => cases h
theorem dv_reps {S : Sg} {G : Hp} {pen : Addr} : ∀ {dd : List D}, dd.all dvFlat = true → Reps S G pen (dd.map dvV) dd
  | [], _ => .nil
  | d :: r, h => by
    simp only [List.all_cons, Bool.and_eq_true] at h
    exact .cons (dv_rep h.1) (dv_reps h.2)
def dvAll : List D → List Value → Bool
  | [], [] => true
  | d :: r, u :: s => dvIs d u && dvAll r s
  | _, _ => false
theorem dvAll_vals : ∀ {dd : List D} {us : List Value}, dvAll dd us = true → Vals (dd.map dvV) us
  | [], [], _ => .nil
  | [], _ :: _, h => by cases h
  | _ :: _, [], h => by cases h
  | d :: r, u :: s, h => by
    simp only [dvAll, Bool.and_eq_true] at h
    exact .cons (dv_rel h.1) (dvAll_vals h.2)
def dflB (K : PySem.W.Frag) (dV : Value) (dd : List D) : Bool := dd.all dvFlat && match dd, dV with
  | [], .none => true
  | _ :: _, .ref T => (match K.lookup T with
    | some ⟨_, _, .seq its _, _⟩ => dvAll dd its.toList
    | _ => false)
  | _, _ => false
/-- a def of the text with the defaults dd -/
def FunW (K : PySem.W.Frag) (x qual : Str) (st : Stmt) (dd : List D) (f : Addr) (fd : FuncData) : Prop :=
  ∃ (oc : Value) (od : Option Addr) (dV kV doc pm : Value) (an : Option Addr) (cdv ct : Value) (osl : Array (Option Value)),
    fd = PySem.W.fnOf x qual (defArgs st) (defBody st) (defScope st) dV kV doc pm an cdv ct ∧ K.lookup f = some ⟨oc, od, .func fd, osl⟩ ∧ PySem.W.codeIn K cdv qual = true ∧ dflB K dV dd = true
section
variable {K : PySem.W.Frag} {x qual : Str} {st : Stmt} {f : Addr} {fd : FuncData} {dd : List D} {ps ks : List Str} {n : Nat} {l : List Src} {mg : Str → Option Value} {h : Heap}
theorem FunW.g (F : FunW K x qual st dd f fd) : FunG K x qual st f fd := by
  obtain ⟨oc, od, dV, kV, doc, pm, an, cdv, ct, osl, h1, h2, h3, _⟩ := F
  exact ⟨oc, od, dV, kV, doc, pm, an, cdv, ct, osl, h1, h2, h3⟩
theorem FunW.flat (F : FunW K x qual st dd f fd) : dd.all dvFlat = true := by
  obtain ⟨oc, od, dV, kV, doc, pm, an, cdv, ct, osl, h1, h2, h3, h4⟩ := F
  unfold dflB at h4
  exact (Bool.and_eq_true_iff.mp h4).1
theorem bdW0 (F : FunW K x qual st [] f fd)
    (hb : ∀ (s : Shared) (kV doc pm : Value) (an : Option Addr) (cdv ct : Value) (us ws : List Value), us.length = n → ws.length = ks.length → BindsTo s (PySem.W.fnOf x qual (defArgs st) (defBody st) (defScope st) .none kV doc pm an cdv ct) ⟨us, ks.zip ws⟩ (ps.zip (pick us [] ws l))) : Bd K fd ps n ks [] l := by
  obtain ⟨oc, od, dV, kV, doc, pm, an, cdv, ct, osl, rfl, h2, h3, h4⟩ := F
  have e : dV = .none := by
    unfold dflB at h4
    cases dV <;> first | rfl | (simp at h4; done)
  subst e
  exact ⟨[], .nil, fun s us ws _ l1 l2 => hb s kV doc pm an cdv ct us ws l1 l2⟩
/-- the defaults are read -/
theorem bdW1 {d : D} {r : List D} (F : FunW K x qual st (d :: r) f fd)
    (hb : ∀ (T : Addr) (kV doc pm : Value) (an : Option Addr) (cdv ct : Value) (us its ws : List Value), us.length = n → its.length = (d :: r).length → ws.length = ks.length →
      ∃ k, bindArgs (PySem.W.fnOf x qual (defArgs st) (defBody st) (defScope st) (.ref T) kV doc pm an cdv ct) ⟨us, ks.zip ws⟩ = seqItems? (.ref T) >>= k ∧ k (some its.toArray) = pure (ps.zip (pick us its ws l))) : Bd K fd ps n ks ((d :: r).map dvV) l := by
  obtain ⟨oc, od, dV, kV, doc, pm, an, cdv, ct, osl, rfl, h2, h3, h4⟩ := F
  unfold dflB at h4
  simp only [Bool.and_eq_true] at h4
  cases dV with
  | ref T =>
    have h5 := h4.2
    dsimp only at h5
    split at h5
    · rename_i oc2 od2 its m sl lT
      have vs := dvAll_vals h5
      refine ⟨its.toList, vs, fun s us ws X l1 l2 => ?_⟩
      obtain ⟨k, e1, e2⟩ := hb T kV doc pm an cdv ct us its.toList ws l1 (by rw [← vs.length]; simp) l2
      refine BindsTo.of_looks fun M => ?_
      rw [e1]
      exact looks_items X lT rfl (PySem.W.Looks.of_pure (by simpa using e2))
    · cases h5
  | _ => simp at h4
/-- all is given -/
theorem bdW2 (F : FunW K x qual st dd f fd)
    (hb : ∀ (s : Shared) (dV kV doc pm : Value) (an : Option Addr) (cdv ct : Value) (us ws : List Value), us.length = n → ws.length = ks.length → BindsTo s (PySem.W.fnOf x qual (defArgs st) (defBody st) (defScope st) dV kV doc pm an cdv ct) ⟨us, ks.zip ws⟩ (ps.zip (pick us [] ws l))) : Bd K fd ps n ks [] l := by
  obtain ⟨oc, od, dV, kV, doc, pm, an, cdv, ct, osl, rfl, h2, h3, h4⟩ := F
  exact ⟨[], .nil, fun s us ws _ l1 l2 => hb s dV kV doc pm an cdv ct us ws l1 l2⟩
/-- a def of the module -/
def DefW (K : PySem.W.Frag) (mg : Str → Option Value) (x : Str) (st : Stmt) (dd : List D) : Prop := ∃ f fd, FunW K x x st dd f fd ∧ mg x = some (.ref f) ∧ PySem.W.keepIn K (.ref f) = true
theorem defW_mk {oc dV kV doc pm cdv ct : Value} {od an : Option Addr} {osl : Array (Option Value)} (X : K.In h) (G : h.Ns mainGlobals mg) (a : PySem.W.nsIn K mainGlobals x = some (some (.ref f)))
    (l : K.lookup f = some ⟨oc, od, .func (PySem.W.fnOf x x (defArgs st) (defBody st) (defScope st) dV kV doc pm an cdv ct), osl⟩) (c : PySem.W.codeIn K cdv x = true) (k : PySem.W.keepIn K (.ref f) = true) (d : dflB K dV dd = true) : DefW K mg x st dd :=
  ⟨f, _, ⟨oc, od, dV, kV, doc, pm, an, cdv, ct, osl, rfl, l, c, d⟩, PySem.W.mg_of X G a, k⟩
/-- a def of a class -/
def MemW (K : PySem.W.Frag) (C : Addr) (x qual : Str) (st : Stmt) (dd : List D) : Prop := ∃ f fd, FunW K x qual st dd f fd ∧ PySem.W.findIn K (.ref C) x = some (some (.ref f)) ∧ PySem.W.isFn K (.ref f) = true ∧ PySem.W.keepIn K (.ref f) = true
theorem memW_mk {C : Addr} {oc dV kV doc pm cdv ct : Value} {od an : Option Addr} {osl : Array (Option Value)} (a : PySem.W.findIn K (.ref C) x = some (some (.ref f)))
    (l : K.lookup f = some ⟨oc, od, .func (PySem.W.fnOf x qual (defArgs st) (defBody st) (defScope st) dV kV doc pm an cdv ct), osl⟩) (c : PySem.W.codeIn K cdv qual = true) (k : (PySem.W.isFn K (.ref f) && PySem.W.keepIn K (.ref f) && dflB K dV dd) = true) : MemW K C x qual st dd := by
  simp only [Bool.and_eq_true] at k
  exact ⟨f, _, ⟨oc, od, dV, kV, doc, pm, an, cdv, ct, osl, rfl, l, c, k.2⟩, a, k.1.1, k.1.2⟩
end
section
variable {P : Program} {w : World} {K : PySem.W.Frag} {mg : Str → Option Value} {base : Heap} {S : Sg} {k c n : Nat} {x qual : Str} {st : Stmt} {dd : List D} {ps ks : List Str} {l : List Src} {mf : List D → M D}
/-- the def x computes mf -/
def FnW (P : Program) (w : World) (K : PySem.W.Frag) (mg : Str → Option Value) (base : Heap) (S : Sg) (k : Nat) (x : Str) (st : Stmt) (dd : List D) (ps : List Str) (mf : List D → M D) : Prop :=
  ∃ f fd, FnG P w K mg base k f fd ps (spM S mf) ∧ FunW K x x st dd f fd ∧ mg x = some (.ref f) ∧ PySem.W.keepIn K (.ref f) = true
theorem FnW.t {dvs : List D} (F : FnW P w K mg base S k x st dd ps mf) (hb : ∀ f fd, FunW K x x st dd f fd → Bd K fd ps n ks (dvs.map dvV) l) (hd : dvs.all dvFlat = true) : FnT P w K mg base S k x n ks dvs l mf := by
  obtain ⟨f, fd, h1, h2, h3, h4⟩ := F
  exact ⟨f, fd, ps, dvs.map dvV, h1, h3, h4, hb f fd h2, fun _ _ => dv_reps hd⟩
/-- the def x of the class number c computes mf -/
def MfW (P : Program) (w : World) (K : PySem.W.Frag) (mg : Str → Option Value) (base : Heap) (S : Sg) (k c : Nat) (x qual : Str) (st : Stmt) (dd : List D) (ps : List Str) (mf : List D → M D) : Prop :=
  ∃ f fd, FnG P w K mg base k f fd ps (spM S mf) ∧ FunW K x qual st dd f fd ∧ PySem.W.findIn K (.ref (S.ca c)) x = some (some (.ref f)) ∧ PySem.W.isFn K (.ref f) = true ∧ PySem.W.keepIn K (.ref f) = true
theorem MfW.m {dvs : List D} (F : MfW P w K mg base S k c x qual st dd ps mf) (hc : clsB K (S.ca c) = true) (hx : (S.nm c).contains x = false) (hb : ∀ f fd, FunW K x qual st dd f fd → Bd K fd ps (n + 1) ks (dvs.map dvV) (.p 0 :: l.map Src.up)) (hd : dvs.all dvFlat = true) : MthT P w K mg base S k c x n ks (dvs, l, mf) := by
  obtain ⟨f, fd, h1, h2, h3, h4, h5⟩ := F
  exact ⟨f, fd, ps, dvs.map dvV, h1, ⟨h3, h4, h5⟩, clsB_of hc, hx, hb f fd h2, fun _ _ => dv_reps hd⟩
theorem MfW.o (F : MfW P w K mg base S k c x qual st [] ps mf) (hb : ∀ f fd, FunW K x qual st [] f fd → Bd K fd ps n [] [] ((List.range n).map .p)) : OwnT P w K mg base S k c x n mf := by
  obtain ⟨f, fd, h1, h2, h3, h4, h5⟩ := F
  exact ⟨f, fd, ps, h1, h3, h4, hb f fd h2⟩
theorem MthT.mono {j : Nat} {q : List D × List Src × (List D → M D)} (F : MthT P w K mg base S j c x n ks q) (h : Nat.ble j k = true) : MthT P w K mg base S k c x n ks q := by
  obtain ⟨f, fd, ps, dvs, h1, r⟩ := F
  exact ⟨f, fd, ps, dvs, h1.mono (Nat.le_of_ble_eq_true h), r⟩
theorem OwnT.mono {j : Nat} (F : OwnT P w K mg base S j c x n mf) (h : Nat.ble j k = true) : OwnT P w K mg base S k c x n mf := by
  obtain ⟨f, fd, ps, h1, r⟩ := F
  exact ⟨f, fd, ps, h1.mono (Nat.le_of_ble_eq_true h), r⟩
/-- the __init__ of the class number c computes the fields by mi -/
def InW (P : Program) (w : World) (K : PySem.W.Frag) (mg : Str → Option Value) (base : Heap) (S : Sg) (k c : Nat) (qual : Str) (st : Stmt) (dd : List D) (ps : List Str) (mi : List D → M (List D)) : Prop :=
  ∃ f fd, FnG P w K mg base k f fd ("self" :: ps) (spO S c mi) ∧ FunW K "__init__" qual st dd f fd ∧ PySem.W.findIn K (.ref (S.ca c)) "__init__" = some (some (.ref f)) ∧ PySem.W.isFn K (.ref f) = true
theorem InW.t {dvs : List D} {mi : List D → M (List D)} (F : InW P w K mg base S k c qual st dd ps mi) (hm : mg x = some (.ref (S.ca c))) (mk : (PySem.W.makesIn K (S.ca c) && PySem.W.keepIn K (.ref (S.ca c))) = true) (hb : ∀ f fd, FunW K "__init__" qual st dd f fd → Bd K fd ("self" :: ps) (n + 1) ks (dvs.map dvV) (.p 0 :: l.map Src.up)) (hd : dvs.all dvFlat = true) : NewT P w K mg base S k c x n ks dvs l mi := by
  obtain ⟨f, fd, h1, h2, h3, h4⟩ := F
  simp only [Bool.and_eq_true] at mk
  exact ⟨f, fd, ps, dvs.map dvV, ⟨mk.1, h3, h4, mk.2⟩, h1, hm, hb f fd h2, fun _ _ => dv_reps hd⟩
/-- a table of one class -/
theorem tab1 {α : Type} {R : Nat → α → Prop} {c0 : Nat} {a0 : α} (h : R c0 a0) : ∀ c a, [(c0, a0)].lookup c = some a → R c a := fun c a e => by
  simp only [List.lookup_cons, List.lookup_nil] at e
  split at e
  · rename_i q
    cases e
    have : c = c0 := by simpa using q
    subst this; exact h
  · cases e
theorem tabC {α : Type} {R : Nat → α → Prop} {c0 : Nat} {a0 : α} {r : List (Nat × α)} (h : R c0 a0) (t : ∀ c a, r.lookup c = some a → R c a) : ∀ c a, ((c0, a0) :: r).lookup c = some a → R c a := fun c a e => by
  rw [List.lookup_cons] at e
  split at e
  · rename_i q
    cases e
    have : c = c0 := by simpa using q
    subst this; exact h
  · exact t c a e
end
/-! ### C.f, a constant of the class -/
def ccB (K : PySem.W.Frag) (C : Addr) (f : Str) (z : Cn) : Bool := PySem.W.readsIn K C (.type "type") && (PySem.W.specialIn K (.ref C) "__getattribute__" == some (some (.builtin "type.__getattribute__"))) && (match PySem.W.findCls K (.ref C) (.type "type") f with
  | some (.val u) => cnIs z u
  | _ => false)
section
variable {X : Cx} {m : Am} {j k c : Nat} {x f : Str} {p pos : Pos}
theorem me_ccon {z : Cn} (B : Bx X m j) (hc : X.mg x = some (.ref (m.S.ca c))) (h : ccB m.S.K (m.S.ca c) f z = true) (hg : gloB X.env.scope x = true) (hx : nmB x = true) (hb : attributeBase (.Name x p) f X.env (eval (.Name x p) X.env) = eval (.Name x p) X.env := by rfl) : PE X (.Attribute (.Name x p) f pos) (tE m (mC z.d)) := by
  refine PE.imp (ClX.pe_cval (me_cls (m := m) (c := c) hc hg hx) hb) fun σ H Q h2 => ?_
  obtain ⟨G, pn, δ, u, w, sl, _, h5⟩ := h2
  refine ⟨G, pn, δ, (), w, sl, trivial, fun v G' H' x' w' r => ?_⟩
  unfold ccB at h
  simp only [Bool.and_eq_true, beq_iff_eq] at h
  have r : Rep m.S G' m.pen v (.cls c) := r
  cases r with
  | cls c =>
    have h3 := h.2
    split at h3
    · rename_i u hu
      exact ⟨m.S.ca c, .type "type", z.v, u, rfl, ⟨by rw [B.hK]; exact h.1.1, by rw [B.hK]; exact h.1.2⟩, ⟨by rw [B.hK]; exact hu, cn_rel h3⟩, h5 z.v G' H' x' w' (cn_rep z)⟩
    · cases h3
/-! ### str of an own object -/
def dStrO (tbl : OTab) : List D → M D
  | [.obj c fs] => match tbl.lookup c with
    | some mf => ((mf [.obj c fs]).calm).bnd fun d => match d with
      | .str y => M.ret (.str y)
      | _ => M.stuck
    | none => M.stuck
  | ds => dStr1 ds
def rStrO (m : Am) (tbl : OTab) : List V → Hp → VK → Prop := fun xs H Q => ∃ c mf a dx fs G p ds, tbl.lookup c = some mf ∧ xs = [.ref a] ∧ H a = some (.ins (m.S.ca c) dx fs) ∧ Wd m.S m.pen G H p ∧ Rep m.S G m.pen (.ref a) (.obj c ds) ∧
  Post m.S m.pen (fun G v d => Rep m.S G m.pen v d) G H (fun v H' => ∃ y, v = .str y ∧ Q (.str y) H') (fun _ _ _ => False) (mf [.obj c ds] p)
theorem call_strO {tbl : OTab} (B : Bx X m j) (T : ∀ c mf, tbl.lookup c = some mf → OwnT X.prog X.w X.K X.mg X.base m.S k c "__str__" 1 mf) (hk : Nat.ble (k + 2) j = true) : CallR X (.type "str") (rStrO m tbl) := by
  intro pins s σ H xs us Q I r h
  obtain ⟨c, mf, a, dx, fs, G, p, ds, el, rfl, ha, w, r1, h5⟩ := h
  obtain ⟨u, rfl, rx⟩ := vals1 r
  cases (show u = Value.ref a from rx)
  obtain ⟨f, fd, ps, F, hs, hf, hb⟩ := T c mf el
  obtain ⟨od, J⟩ := insInst I ha
  have hr : Room (k + 2) X.A := B.hr.mono (Nat.le_of_ble_eq_true hk)
  have hu : X.A.in1.in1.units < cLine := by have := hr.units; show X.A.units + 1 + 1 < cLine; omega
  refine PySem.W.kso_call hu I.kIn J hs hf ?_
  obtain ⟨its, vd, bd⟩ := hb.ex
  cases vd
  have bt := bd s [.ref a] [] I.kIn rfl rfl
  have sp : spM m.S mf [.ref a] H (fun v H' => ∃ y, v = .str y ∧ Q (.str y) H') (fun _ _ _ => False) := ⟨m.pen, G, p, _, w, .cons r1 .nil, h5⟩
  refine wpAny_call (codeAny_mono (F.run X.A.in1.in1 X.stack s H ⟨[.ref a], []⟩ [.ref a] [.ref a] _ (fun _ _ _ => False) B.hq hr.in1.in1 I.env0.in1.in1 bt (.cons rfl .nil) sp) fun r s' hq => ?_)
  cases r with
  | error e => exact B.pf pins σ H s e s' I hq
  | ok fl =>
    cases fl with
    | ret z =>
      obtain ⟨v', H', I', rv', y, ey, q⟩ := I.after hq
      subst ey
      obtain ⟨t, rfl⟩ := (show ∃ t, z = Value.str y t from rv')
      exact ⟨.str y, H', I', ⟨t, rfl⟩, q⟩
    | next => exact False.elim hq
    | brk => exact False.elim hq
    | cont => exact False.elim hq
theorem b_strO {tbl : OTab} (B : Bx X m j) (T : ∀ c mf, tbl.lookup c = some mf → OwnT X.prog X.w X.K X.mg X.base m.S k c "__str__" 1 mf) (hk : Nat.ble (k + 2) j = true) : BltT X m "str" (dStrO tbl) := by
  refine ⟨.inr ⟨_, _, rfl, CallR.or (CallR.or call_str_int SkE.call_str_str) (call_strO B T hk), ?_⟩⟩
  rintro σ xs H Q ⟨G, p, δ, ⟨u, ds⟩, w, sl, ⟨_, r⟩, h⟩
  have r : Reps m.S G m.pen xs ds := r
  by_cases ho : ∃ c fs, ds = [.obj c fs]
  · obtain ⟨c, fs, rfl⟩ := ho
    right
    cases r with
    | cons r1 r2 =>
      cases r2
      cases id r1 with
      | @obj a dx _ vs _ ha hl rr =>
        dsimp only [dStrO] at h
        cases e : tbl.lookup c with
        | none => rw [e] at h; exact h.elim
        | some mf =>
          rw [e] at h
          refine ⟨c, mf, a, dx, _, G, p, fs, e, rfl, w.sub _ _ ha, w, r1, ?_⟩
          dsimp only [M.bnd, M.calm] at h
          rcases he : mf [.obj c fs] p with _ | ⟨o, p1⟩
          · rw [he] at h; exact h
          · rw [he] at h
            cases o with
            | ex c' gs => exact h.elim
            | ok d =>
              intro v G' H' x' w' rv
              have rv : Rep m.S G' m.pen v d := rv
              cases rv with
              | str y => exact ⟨y, rfl, h (.str y) G' H' x' w' (.str y)⟩
              | _ => exact h.elim
  · left
    refine r_str1 σ xs H Q ⟨G, p, δ, ⟨u, ds⟩, w, sl, ⟨trivial, r⟩, ?_⟩
    have e : dStrO tbl ds = dStr1 ds := by
      match ds with
      | [] => rfl
      | [.obj c fs] => exact absurd ⟨_, _, rfl⟩ ho
      | [.non] => rfl
      | [.bl _] => rfl
      | [.int _] => rfl
      | [.str _] => rfl
      | [.tup _] => rfl
      | [.lst _] => rfl
      | [.dct _] => rfl
      | [.exc _ _] => rfl
      | [.cls _] => rfl
      | [.ty _] => rfl
      | [.pen] => rfl
      | [.clo _] => rfl
      | a :: _ :: _ => cases a <;> rfl
    dsimp only at h ⊢
    rw [e] at h
    exact h
end
end ME

/-! Facts of the top for plain classes, try, lambdas. -/
namespace ME
open PySem PySem.Spec PyProof.Rows L2
def oclB (K : PySem.W.Frag) (C : Addr) : Bool := clsB K C && (PySem.W.findIn K (.ref C) "__class__" == some (some (.builtin "object.__class__"))) && (PySem.W.mroIn K C (.type "object") == some true)
theorem ocl_of {K : PySem.W.Frag} {C : Addr} (h : oclB K C = true) (b : bltB K = true) : OCl K C := by
  unfold oclB at h
  unfold bltB at b
  simp only [Bool.and_eq_true, beq_iff_eq] at h b
  exact ⟨clsB_of h.1.1, h.1.2, b.1, b.2, h.2⟩
def exmB (K : PySem.W.Frag) (ca : Nat → Addr) (T : IsT) (ci : Nat) : Bool := T.xs.all fun c => PySem.W.exmOne K (.ref (ca c)) (.ref (ca ci)) == some (T.sub c ci)
theorem exm_of {S : Sg} {T : IsT} {ci : Nat} (h : exmB S.K S.ca T ci = true) : ExmF S T ci := fun c hc => beq_iff_eq.mp (List.all_eq_true.mp h c hc)
/-! ### tables of code objects -/
def nodA : List Addr → Bool
  | [] => true
  | x :: r => !r.contains x && nodA r
def tbsB (tb : List (Addr × Addr)) (q : List Str) : Bool := (tb.length == q.length) && nodA (tb.map (·.2))
theorem nodA_of : ∀ {l : List Addr}, nodA l = true → l.Nodup
  | [], _ => List.nodup_nil
  | x :: r, h => by
    simp only [nodA, Bool.and_eq_true, Bool.not_eq_true', List.contains_eq_mem, decide_eq_false_iff_not] at h
    exact List.nodup_cons.mpr ⟨h.1, nodA_of h.2⟩
theorem zip_mem {α β : Type} : ∀ {a : List α} {b : List β} {i : Nat} {x : α} {y : β}, a[i]? = some x → b[i]? = some y → (x, y) ∈ a.zip b
  | [], _, i, x, y, h, _ => by simp at h
  | _ :: _, [], i, x, y, _, h => by simp at h
  | p :: a, q :: b, 0, x, y, h1, h2 => by
    simp at h1 h2; subst h1 h2; simp
  | p :: a, q :: b, i + 1, x, y, h1, h2 => by
    rw [List.zip_cons_cons]
    exact List.mem_cons_of_mem _ (zip_mem (i := i) (by simpa using h1) (by simpa using h2))
theorem zip_uni {α β : Type} : ∀ {a : List α} {b : List β} {i : Nat} {x : α} {y : β}, a.Nodup → a[i]? = some x → b[i]? = some y → ∀ q ∈ a.zip b, q.1 = x → q.2 = y
  | [], _, i, x, y, _, h, _ => by simp at h
  | _ :: _, [], i, x, y, _, _, h => by simp at h
  | p :: a, q :: b, 0, x, y, nd, h1, h2 => fun z hz e => by
    simp at h1 h2; subst h1 h2
    rw [List.zip_cons_cons] at hz
    rcases List.mem_cons.mp hz with hz | hz
    · rw [hz]
    · have := (List.nodup_cons.mp nd).1
      have hm : z.1 ∈ a := (List.of_mem_zip (a := z.1) (b := z.2) hz).1
      rw [e] at hm
      exact absurd hm this
  | p :: a, q :: b, i + 1, x, y, nd, h1, h2 => fun z hz e => by
    rw [List.zip_cons_cons] at hz
    have h1' : a[i]? = some x := by simpa using h1
    rcases List.mem_cons.mp hz with hz | hz
    · rw [hz] at e
      have hm : x ∈ a := List.mem_of_getElem? h1'
      rw [← e] at hm
      exact absurd hm (List.nodup_cons.mp nd).1
    · exact zip_uni (i := i) (List.nodup_cons.mp nd).2 h1' (by simpa using h2) z hz e
theorem lamT_of {tb : List (Addr × Addr)} {qs : List Str} {i : Nat} {q : Str} (h : tbsB tb qs = true) (hi : ixB qs i q = true) :
    (((tb.getD i (0, 0)).2, q) ∈ (tb.map (·.2)).zip qs) ∧ (∀ z ∈ (tb.map (·.2)).zip qs, z.1 = (tb.getD i (0, 0)).2 → z.2 = q) ∧ tb.getD i (0, 0) ∈ tb := by
  unfold tbsB at h
  simp only [Bool.and_eq_true, beq_iff_eq] at h
  have h2 := ixB_of hi
  have hl : i < tb.length := by rw [h.1]; exact (List.getElem?_eq_some_iff.mp h2).1
  have e : tb[i]? = some (tb.getD i (0, 0)) := by
    rw [List.getD_eq_getElem?_getD, List.getElem?_eq_getElem hl]; rfl
  have e2 : (tb.map (·.2))[i]? = some (tb.getD i (0, 0)).2 := by rw [List.getElem?_map, e]; rfl
  exact ⟨zip_mem e2 h2, zip_uni (nodA_of h.2) e2 h2, List.mem_of_getElem? e⟩
theorem tabs_start {tb : List (Addr × Addr)} {qs : List Str} {H : Hp} (h : ∀ p ∈ tb, H p.2 = some (.tbl #[])) : LamX.Tabs ((tb.map (·.2)).zip qs) H := fun q hq => by
  have := (List.of_mem_zip (a := q.1) (b := q.2) hq).1
  obtain ⟨p, hp, e⟩ := List.mem_map.mp this
  exact LamX.TabS.nil (by rw [← e]; exact h p hp)
/-- a def that makes lambdas: its code object is known -/
def DefC (K : PySem.W.Frag) (mg : Str → Option Value) (x : Str) (st : Stmt) (dd : List D) (c : Addr) : Prop := ∃ f fd, FunW K x x st dd f fd ∧ mg x = some (.ref f) ∧ PySem.W.keepIn K (.ref f) = true ∧ fd.code = .ref c
theorem defC_mk {K : PySem.W.Frag} {h : Heap} {mg : Str → Option Value} {x : Str} {st : Stmt} {dd : List D} {f c : Addr} {oc dV kV doc pm ct : Value} {od an : Option Addr} {osl : Array (Option Value)} (X : K.In h) (G : h.Ns mainGlobals mg) (a : PySem.W.nsIn K mainGlobals x = some (some (.ref f)))
    (l : K.lookup f = some ⟨oc, od, .func (PySem.W.fnOf x x (defArgs st) (defBody st) (defScope st) dV kV doc pm an (.ref c) ct), osl⟩) (cc : PySem.W.codeIn K (.ref c) x = true) (k : PySem.W.keepIn K (.ref f) = true) (d : dflB K dV dd = true) : DefC K mg x st dd c :=
  ⟨f, _, ⟨oc, od, dV, kV, doc, pm, an, .ref c, ct, osl, rfl, l, cc, d⟩, PySem.W.mg_of X G a, k, rfl⟩
def hdsB (K : PySem.W.Frag) (tb : List (Addr × Addr)) : Bool := tb.all fun p => PySem.W.codeHdIn K p.1 p.2 && (K.lookup p.2).isNone
theorem hds_of {K : PySem.W.Frag} {tb : List (Addr × Addr)} {h : Heap} (X : K.In h) (e : hdsB K tb = true) : (∀ p ∈ tb, K.lookup p.2 = none) ∧ ∀ p ∈ tb, PySem.W.CodeHd h p.1 p.2 := by
  unfold hdsB at e
  refine ⟨fun p hp => ?_, fun p hp => ?_⟩
  · have := List.all_eq_true.mp e p hp
    simp only [Bool.and_eq_true, Option.isNone_iff_eq_none] at this
    exact this.2
  · have := List.all_eq_true.mp e p hp
    simp only [Bool.and_eq_true] at this
    exact PySem.W.codeHd_of_K X this.1
theorem tbs_in {tb : List (Addr × Addr)} {ts : List Addr} {h : Heap} (Y : ∀ P ∈ ts, h.get? P = some (PySem.W.tabObj #[])) (e : (tb.all fun p => ts.contains p.2) = true) : ∀ p ∈ tb, h.get? p.2 = some objT := fun p hp => by
  have := List.all_eq_true.mp e p hp
  exact Y p.2 (by simpa using this)
/-! ### a def that hears what a call says -/
/-- its result by what the call did: I gives the slots δ1 behind the first, Kd what is done with a value, R the rest -/
def heardR (T : IsT) (ci i j : Nat) (δ1 : DS) (Kd : D → DS ⊕ D) (R : SX) (act : M D) : M D := fun p => match act p with
  | none => none
  | some (.ok d, p') => (match Kd d with
    | .inl δ2 => outOf (R (none :: δ2) p')
    | .inr r => some (.ok r, p'))
  | some (.ex c fs, p') => if T.xs.contains c && decide (i < δ1.length) then (if T.sub c ci then outOf (R (none :: ((δ1.set j (some (.d (.exc c fs)))).set i none)) p') else some (.ex c fs, p')) else none
def kdOf (f : Nat) (p : Pn) : DS ⊕ D → Option (Fl × Pn)
  | .inl δ => some (.nx (some (.d (.clo f)) :: δ), p)
  | .inr r => some (.rt r, p)
theorem heard_u {T : IsT} {ci i j n : Nat} {k : D → SX} {I R : SX} {δ1 : DS} {Kd : D → DS ⊕ D} (hI : ∀ (f : Nat) (p : Pn), I (dsOf n [.clo f]) p = some (.nx (some (.d (.clo f)) :: δ1), p))
    (hk : ∀ (f : Nat) (d : D) (p : Pn), k d (some (.d (.clo f)) :: δ1) p = kdOf f p (Kd d)) (f : Nat) (act : M D) (p : Pn) :
    outOf (sSeq I (sSeq (sTry T ci (i + 1) (j + 1) (sBnd (mAct f act) k)) (sDrop 0 R)) (dsOf n [.clo f]) p) = heardR T ci i j δ1 Kd R act p := by
  unfold sSeq
  rw [hI]
  dsimp only [sTry, sBnd, heardR]
  rw [mAct_at]
  rcases act p with _ | ⟨o, p1⟩
  · rfl
  · cases o with
    | ok d =>
      dsimp only
      rw [hk]
      cases Kd d with
      | inl δ2 => rfl
      | inr r => rfl
    | ex c fs =>
      dsimp only
      have e : decide (i + 1 < (some (Sl.d (D.clo f)) :: δ1).length) = decide (i < δ1.length) := by simp
      rw [e]
      cases h1 : (T.xs.contains c && decide (i < List.length δ1)) with
      | false => rfl
      | true =>
        cases h2 : T.sub c ci with
        | false => rfl
        | true => rfl
/-! ### not x as a value -/
def mNotV (a : EX) : EX := fun δ => (a δ).bnd fun x => (M.opt (dB x)).bnd fun k => M.ret (.bl (!k))
theorem me_not {X : Cx} {m : Am} {a : Expr} {ea : EX} {pos : Pos} (ha : PE X a (tE m ea)) : PE X (.UnaryOp .Not a pos) (tE m (mNotV ea)) := by
  refine PE.imp (pe_not ha) fun σ H Q h => ?_
  refine (tY_bind (R1 := m.rE) r0_mono h).imp fun x H1 h2 => ?_
  obtain ⟨G, p, δ, ⟨_, d⟩, w, sl, ⟨_, r⟩, h5⟩ := h2
  have r : Rep m.S G m.pen x d := r
  cases r with
  | bl k => exact ⟨k, rfl, h5 (.bl (!k)) G H1 Ex.refl w (.bl _)⟩
  | _ => exact h5.elim
end ME

/-! Texts: methods, slices, int of a text. -/
namespace ME
open PySem PySem.Spec PyProof.Rows L2
/-! ### o.m(e, ..), o a text -/
def mSM (f : Str → List D → M D) (eo : EX) (ra : AX) : EX := fun δ => (eo δ).bnd fun x => match x with
  | .str a => (ra δ).bnd fun xs => f a xs
  | _ => M.stuck
def dSplit (a : Str) : List D → M D
  | [.str b] => if (b.length != 0) && decide (a.length + 2 ≤ 16777216) then M.ret (.lst ((Txt.split a b).map .str)) else M.stuck
  | _ => M.stuck
def dPart (a : Str) : List D → M D
  | [.str b] => if (b.length != 0) && decide (a.length ≤ 16777216) then M.ret (.tup [.str (Txt.partition a b).1, .str (Txt.partition a b).2.1, .str (Txt.partition a b).2.2]) else M.stuck
  | _ => M.stuck
section
variable {X : Cx} {m : Am} {o e : Expr} {es : List Expr} {eo : EX} {ra : AX} {apos cpos : Pos} {name : Str} {id : String} {r : V → List V → Hp → VK → Prop} {f : Str → List D → M D}
def RMOk (m : Am) (r : V → List V → Hp → VK → Prop) (f : Str → List D → M D) : Prop := ∀ (a : Str) (xs : List V) (H : Hp) (Q : VK) (E : XK) (G : Hp) (p : Pn) (ds : List D), Wd m.S m.pen G H p → Reps m.S G m.pen xs ds → Post m.S m.pen m.rE G H Q E (f a ds p) → r (.str a) xs H Q
theorem me_sm (slot : Slot "str" name id) (hty : typeOf (.builtin id) = pure (.type "method_descriptor")) (hm : MtR X id r) (hr : RMOk m r f) (ho : PE X o (tE m eo)) (ha : PA X (e :: es) (tAs m ra))
    (hbase : attributeBase o name X.env (eval o X.env) = eval o X.env := by rfl)
    (hfew : ((backTo cpos (starEach (e :: es) X.env)).all (fun x => !x.1) && (backToKw cpos (keywordEach [] X.env)).all (fun x => x.1.isSome)
      && decide ((e :: es).length + ([] : List Keyword).length + (if ([] : List Keyword).isEmpty then 0 else 1) < 30)) = true := by rfl)
    (hline : (apos.endLine == cpos.line) = true := by rfl) (hs : starEach (e :: es) X.env = (false, eval e X.env) :: starEach es X.env := by rfl) (hplain : (backTo cpos (starEach es X.env)).any (·.1) = false := by rfl) :
    PE X (.Call (.Attribute o name apos) (e :: es) [] cpos) (tE m (mSM f eo ra)) := by
  refine PE.imp (pe_bm PySem.F.plainAttrs_str slot hty hm ho ha hbase hfew hline hs hplain) fun σ H Q h => ?_
  refine (tY_bind (R1 := m.rE) r0_mono h).imp fun x H1 h2 => ?_
  obtain ⟨G, p, δ, ⟨u, d⟩, w, sl, ⟨_, rx⟩, h5⟩ := h2
  have rx : Rep m.S G m.pen x d := rx
  cases rx with
  | str a =>
    refine ⟨rfl, ?_⟩
    have h6 : tY m r0 m.rE () (fun _ δ => (ra δ).bnd fun xs => f a xs) σ H1 Q := ⟨G, p, δ, (), w, sl, trivial, h5⟩
    refine (tY_bind (R1 := m.rA) r0_mono h6).imp fun xs H2 h7 => ?_
    obtain ⟨G2, p2, δ2, ⟨u2, ds⟩, w2, sl2, ⟨_, r2⟩, h8⟩ := h7
    exact hr a xs H2 Q _ G2 p2 ds w2 r2 h8
  | _ => exact h5.elim
theorem r_split : RMOk m (fun x xs H Q => ∃ a b, x = .str a ∧ xs = [.str b] ∧ (b.length == 0) = false ∧ a.length + 2 ≤ sizeLine ∧ rNewStrs (Txt.split a b) H Q) dSplit := by
  intro a xs H Q E G p ds w r h
  unfold dSplit at h
  split at h
  · rename_i b
    cases r with
    | cons r1 r2 =>
      cases r1
      cases r2
      split at h
      · rename_i hc
        simp only [Bool.and_eq_true, decide_eq_true_eq, bne_iff_ne] at hc
        refine ⟨a, b, rfl, rfl, by simpa using hc.1, by rw [sizeLine_eq]; exact hc.2, ?_⟩
        exact fin_new (m := m) w h fun l hl => .lst upd_same (reps_strs _)
      · exact h.elim
  · exact h.elim
theorem r_part : RMOk m (fun x xs H Q => ∃ a b, x = .str a ∧ xs = [.str b] ∧ (b.length == 0) = false ∧ a.length ≤ sizeLine ∧
    ∀ p, H p = none → Q (.ref p) (upd H p (.tup [.str (Txt.partition a b).1, .str (Txt.partition a b).2.1, .str (Txt.partition a b).2.2]))) dPart := by
  intro a xs H Q E G p ds w r h
  unfold dPart at h
  split at h
  · rename_i b
    cases r with
    | cons r1 r2 =>
      cases r1
      cases r2
      split at h
      · rename_i hc
        simp only [Bool.and_eq_true, decide_eq_true_eq, bne_iff_ne] at hc
        refine ⟨a, b, rfl, rfl, by simpa using hc.1, by rw [sizeLine_eq]; exact hc.2, ?_⟩
        exact fin_new (m := m) w h fun l hl => .tup (.inl (.of upd_same)) (.cons (.str _) (.cons (.str _) (.cons (.str _) .nil)))
      · exact h.elim
  · exact h.elim
/-! ### x[lo:hi] of a text or a list -/
def mPart : Option EX → DS → M (Option Int)
  | none, _ => M.ret none
  | some e, δ => (e δ).bnd fun d => match d with
    | .int i => M.ret (some i)
    | _ => M.stuck
def cutD (xs : List D) (lo hi : Option Int) : List D := (xs.drop (HT.sIx xs.length 0 lo)).take (HT.sIx xs.length xs.length hi - HT.sIx xs.length 0 lo)
def dSl : D → Option Int → Option Int → M D
  | .str z, lo, hi => if szOk z.length then M.ret (.str (cutS z lo hi)) else M.stuck
  | .lst l, lo, hi => M.ret (.lst (cutD l lo hi))
  | _, _, _ => M.stuck
def mSl (eo : EX) (lo hi : Option EX) : EX := fun δ => (eo δ).bnd fun x => (mPart lo δ).bnd fun l => (mPart hi δ).bnd fun u => dSl x l u
def rO : Rl (Option Int) (Option Int) := fun _ a b => a = b
theorem rO_mono : rO.Mono := fun _ _ _ _ _ h => h
def tO (m : Am) (e : Option EX) : TO := fun σ H Q => tY m r0 rO () (fun _ => mPart e) σ H Q
theorem mo_none : PO X none (tO m none) := by
  have h0 := po_none (X := X)
  refine ⟨fun pins s σ H Q I h => h0.run pins s σ H Q I ?_⟩
  obtain ⟨G, p, δ, _, w, sl, _, h5⟩ := h
  exact h5 none G H Ex.refl w rfl
theorem mo_some {ea : EX} (h1 : PE X e (tE m ea)) : PO X (some e) (tO m (some ea)) := by
  have h0 := po_some h1
  refine ⟨fun pins s σ H Q I h => h0.run pins s σ H Q I ?_⟩
  refine (tY_bind (R1 := m.rE) r0_mono h).imp fun x H1 h2 => ?_
  obtain ⟨G, p, δ, ⟨_, d⟩, w, sl, ⟨_, r⟩, h5⟩ := h2
  have r : Rep m.S G m.pen x d := r
  cases r with
  | int i => exact ⟨i, rfl, h5 (some i) G H1 Ex.refl w rfl⟩
  | _ => exact h5.elim
theorem reps_cut {S : Sg} {G : Hp} {pen : Addr} {vs : List V} {ds : List D} (r : Reps S G pen vs ds) (lo hi : Option Int) : Reps S G pen (cutV vs lo hi) (cutD ds lo hi) := by
  unfold cutV cutD
  rw [r.length]
  exact Reps.take _ (Reps.drop _ r)
theorem me_sl {lo hi : Option Expr} {el eh : Option EX} {p2 pos : Pos} (B : X.K = m.S.K) (ha : PE X e (tE m eo)) (hl : PO X lo (tO m el)) (hh : PO X hi (tO m eh)) : PE X (.Subscript e (.Slice lo hi none p2) pos) (tE m (mSl eo el eh)) := by
  refine PE.imp (pe_slice (L2.SlR.or sl_str sl_list) ha hl hh) fun σ H Q h => ?_
  refine (tY_bind (R1 := m.rE) r0_mono h).imp fun x H1 h2 => ?_
  refine (tY_bind (R1 := rO) (rP_mono r0_mono (rE_mono m)) h2).imp fun l H2 h3 => ?_
  refine (tY_bind (R1 := rO) (rP_mono (rP_mono r0_mono (rE_mono m)) rO_mono) h3).imp fun u H3 h4 => ?_
  obtain ⟨G, p, δ, ⟨⟨⟨_, d⟩, l'⟩, u'⟩, w, sl, ⟨⟨⟨_, r⟩, e1⟩, e2⟩, h5⟩ := h4
  have r : Rep m.S G m.pen x d := r
  have e1 : l = l' := e1
  have e2 : u = u' := e2
  subst e1 e2
  cases r with
  | str z =>
    dsimp only [dSl] at h5
    split at h5
    · rename_i hz
      unfold szOk at hz
      exact .inl ⟨z, rfl, by rw [sizeLine_eq]; exact of_decide_eq_true hz, fin_same w (.str _) h5⟩
    · exact h5.elim
  | @lst a vs ds hq rr =>
    exact .inr ⟨a, vs, rfl, .inl (.of (w.sub _ _ hq)), fin_new (m := m) w h5 fun b hb => .lst upd_same ((reps_cut rr _ _).mono (Sub.alloc (w.gfree hb)))⟩
  | _ => exact h5.elim
/-! ### int of a text -/
def dIntT : List D → M D
  | [.str a] => match PySem.intText? a with
    | some n => if decide (a.length ≤ 640) then M.ret (.int n) else M.stuck
    | none => M.stuck
  | ds => dInt1 ds
theorem b_intT : BltT X m "int" dIntT := by
  refine ⟨.inr ⟨_, _, rfl, CallR.or call_int1 call_int_str, ?_⟩⟩
  rintro σ xs H Q ⟨G, p, δ, ⟨u, ds⟩, w, sl, ⟨_, r⟩, h⟩
  have r : Reps m.S G m.pen xs ds := r
  by_cases ho : ∃ a, ds = [.str a]
  · obtain ⟨a, rfl⟩ := ho
    right
    cases r with
    | cons r1 r2 =>
      cases r1
      cases r2
      dsimp only [dIntT] at h
      cases e : PySem.intText? a with
      | none => rw [e] at h; exact h.elim
      | some n =>
        rw [e] at h
        dsimp only at h
        split at h
        · rename_i hz
          exact ⟨a, n, rfl, e, of_decide_eq_true hz, fin_same w (.int _) h⟩
        · exact h.elim
  · left
    refine r_int1 σ xs H Q ⟨G, p, δ, ⟨u, ds⟩, w, sl, ⟨trivial, r⟩, ?_⟩
    have e : dIntT ds = dInt1 ds := by
      match ds with
      | [] => rfl
      | [.str a] => exact absurd ⟨_, rfl⟩ ho
      | [.non] => rfl
      | [.bl _] => rfl
      | [.int _] => rfl
      | [.obj _ _] => rfl
      | [.tup _] => rfl
      | [.lst _] => rfl
      | [.dct _] => rfl
      | [.exc _ _] => rfl
      | [.cls _] => rfl
      | [.ty _] => rfl
      | [.pen] => rfl
      | [.clo _] => rfl
      | a :: _ :: _ => cases a <;> rfl
    dsimp only at h ⊢
    rw [e] at h
    exact h
/-! ### x[::-1] of a text -/
def revS (z : Str) : Str := ⟨((Builtin.Str.strSliceIndices none none (-1) z.length).filterMap (z.cps[·]?)).toArray⟩
def dRevS : D → M D
  | .str z => if szOk z.length && szOk (revS z).length then M.ret (.str (revS z)) else M.stuck
  | _ => M.stuck
theorem me_revS {k : Nat} {p1 p2 p3 pos : Pos} (ha : PE X e (tE m eo)) : PE X (.Subscript e (.Slice none none (some (.UnaryOp .USub (.Constant (.int 1) k p1) p2)) p3) pos) (tE m (mUn dRevS eo)) := by
  refine ⟨fun pins s σ H Q I h => ?_⟩
  refine Subscript_ (thn (ha.run pins s σ H _ I (tY_bind (R1 := m.rE) r0_mono h)) fun v s1 ⟨x, H1, I1, r1, q1⟩ => ?_)
  obtain ⟨G, p, δ, ⟨u, d⟩, w, sl, ⟨_, rx⟩, h5⟩ := q1
  have rx : Rep m.S G m.pen x d := rx
  cases rx with
  | str z =>
    dsimp only [dRevS] at h5
    split at h5
    · rename_i hz
      unfold szOk at hz
      simp only [Bool.and_eq_true, decide_eq_true_eq] at hz
      have q := fin_same (m := m) w (.str (revS z)) h5
      obtain ⟨t, rfl⟩ := (show ∃ t, v = Value.str z t from r1)
      have hst : PO X (some (.UnaryOp .USub (.Constant (.int 1) k p1) p2)) (tPart (tUn (rU fun i => .int (-i)) (tC (.int 1)))) := po_some (pe_un un_neg pe_int)
      refine wpAny_Slice (thn (po_none.run pins s1 σ H1 (fun o H2 => o = none ∧ H2 = H1) I1 ⟨rfl, rfl⟩) fun vl s2 ⟨l, H2, I2, pl, el, e2⟩ => ?_)
      subst el e2
      refine thn (po_none.run pins s2 σ H2 (fun o H3 => o = none ∧ H3 = H2) I2 ⟨rfl, rfl⟩) fun vu s3 ⟨u', H3, I3, pu, eu, e3⟩ => ?_
      subst eu e3
      refine thn (hst.run pins s3 σ H3 (fun o H4 => o = some (-1) ∧ H4 = H3) I3 ⟨1, rfl, -1, rfl, rfl, rfl⟩) fun vs s4 ⟨o', H4, I4, ps, eo', e4⟩ => ?_
      subst eo' e4
      have I5 : Inv X pins σ H4 { s4 with heap := s4.heap.push { cls := .type "slice", data := .fields #[vl, vu, vs] } } := I4.kept (t' := s4.toks) fun b ob q => Heap.get?_push_of_some _ q
      obtain ⟨l0, rfl, el0⟩ := IsPart.raw pl
      obtain ⟨u0, rfl, eu0⟩ := IsPart.raw pu
      obtain ⟨k0, rfl, ek0⟩ := IsPart.raw ps
      show wpAny (model X.prog X.w) X.A (subscriptTail e (.Slice none none (some (.UnaryOp .USub (.Constant (.int 1) k p1) p2)) p3) (.str z t) (.ref s4.heap.objs.size)) (EP X pins σ Q) X.xe _
      refine tail_any (ops := [.str z t, .ref s4.heap.objs.size]) (typeIs_str _ _ _) PySem.F.slot_str_getitem.lookup ?_ (by with_unfolding_all rfl)
      have hs := Heap.IsSliceOf.new s4.heap (partValue l0) (partValue u0) (partValue k0)
      refine wpAny_getItem_str_slice (l := l0) (u := u0) (st := k0) hs (by rw [ek0]; rfl) ?_
      unfold sliceMade slicePicked
      rw [ek0, el0, eu0]
      exact ⟨by rw [sizeLine_eq]; exact hz.2, .str _, _, I5.tok _, ⟨_, rfl⟩, q⟩
    · exact h5.elim
  | _ => exact h5.elim
end
end ME

/-! C.m(..), m a classmethod. -/
namespace ME
open PySem PySem.Spec PyProof.Rows L2
/-- the arguments of a bound method's call -/
structure PAM (X : Cx) (es : List Expr) (kws : List Keyword) (n : Nat) (ks : List Str) (t : TK) : Prop where
  run : ∀ (pos : Pos) (q g : Addr) (self : Value) (pins : List (Addr × Obj)) (s : Shared) (σ : L2.St) (H : Hp) (R : List V → List V → Hp → Prop) (Q : Value → Shared → Prop), PySem.W.fnIn X.K g = true → Inv X ((q, PySem.W.methodObj (.ref g) self) :: pins) σ H s → t σ H R →
    (∀ us ws s2 vs zs H2, Inv X ((q, PySem.W.methodObj (.ref g) self) :: pins) σ H2 s2 → Vals vs us → Vals zs ws → us.length = n → ws.length = ks.length → R vs zs H2 → wpAny (model X.prog X.w) X.A (call (.ref q) us (ks.zip ws)) Q X.xe s2) →
    wpAny (model X.prog X.w) X.A (callWith pos (.ref q) [] (backTo pos (starEach es X.env)) (backToKw pos (keywordEach kws X.env))) Q X.xe s
section
variable {X : Cx} {m : Am} {e : Expr} {es : List Expr} {kws : List Keyword} {ks : List Str} {ra rk : AX} {n : Nat}
theorem pam_pos (ha : PA X (e :: es) (tAs m ra)) (he : starEach (e :: es) X.env = (false, eval e X.env) :: starEach es X.env := by rfl) (hpl : ∀ pos, (backTo pos (starEach es X.env)).any (·.1) = false := by intro _; rfl) : PAM X (e :: es) [] n [] (tAK m n 0 ra mNil) := by
  refine ⟨fun pos q g self pins s σ H R Q hf I h c => ?_⟩
  have h1 := ha.run pos _ s σ H _ I (tAK_end h)
  show wpAny _ _ (callWith pos (.ref q) [] (backTo pos (starEach (e :: es) X.env)) []) _ _ _
  rw [he] at h1 ⊢
  refine PySem.W.callWith_of (P := PySem.W.MethP X.K q g self) (by show ((false || (backTo pos (starEach es X.env)).any (·.1)) || false) = false; rw [hpl pos]; rfl) (PySem.W.keeps_M hf) (Calls.evalArgs_plain (thn h1 fun us s1 ⟨vs, H1, I1, r, q1⟩ => ⟨⟨ClX.pin_at I1, I1.kIn⟩, ?_⟩))
  obtain ⟨G, p, δ, _, w, sl, _, h5⟩ := q1
  obtain ⟨l1, _, h6⟩ := h5 [] G H1 Ex.refl w .nil
  exact c us [] s1 vs [] H1 I1 r .nil (by rw [← r.length]; exact l1) rfl h6
theorem pam_kw (hkw : PK X kws (tAs m rk)) (hall : ∀ pos, (backToKw pos (keywordEach kws X.env)).all (·.1.isSome) = true := by intro _; rfl) (hks : ∀ pos, (backToKw pos (keywordEach kws X.env)).filterMap (·.1) = ks := by intro _; rfl)
    (hpl : ∀ pos, ((backTo pos (starEach [] X.env)).any (·.1) || (backToKw pos (keywordEach kws X.env)).any (·.1.isNone)) = false := by intro _; rfl) : PAM X [] kws 0 ks (tAK m 0 ks.length mNil rk) := by
  refine ⟨fun pos q g self pins s σ H R Q hf I h c => ?_⟩
  have h' := tAK_end h
  obtain ⟨G, p, δ, _, w, sl, _, h5⟩ := h'
  have h6 := h5 [] G H Ex.refl w .nil
  refine PySem.W.callWith_of (P := PySem.W.MethP X.K q g self) (hpl pos) (PySem.W.keeps_M hf) (evalArgs_kw2_nil (hall pos) (thn (hkw.run pos _ s σ H _ I h6) fun ws s2 ⟨zs, H2, I2, rz, l1, l2, q2⟩ => ⟨⟨ClX.pin_at I2, I2.kIn⟩, ?_⟩))
  rw [hks pos]
  exact c [] ws s2 [] zs H2 I2 .nil rz rfl (by rw [← rz.length]; exact l2) q2
end
/-- the classmethod nm of the class number c -/
def CmW (K : PySem.W.Frag) (C : Addr) (x qual : Str) (st : Stmt) (dd : List D) : Prop := ∃ p f fd, FunW K x qual st dd f fd ∧ ClX.CRead K C (.type "type") ∧ ClX.CMet K C (.type "type") x p f
theorem cmW_mk {K : PySem.W.Frag} {C p f : Addr} {x qual : Str} {st : Stmt} {dd : List D} {rest : List Value} {oc dV kV doc pm cdv ct : Value} {od an : Option Addr} {osl : Array (Option Value)} (a : PySem.W.findCls K (.ref C) (.type "type") x = some (.get (.builtin "classmethod.__get__") (.ref p) .none (.ref C)))
    (r : PySem.W.recIn K p "classmethod" = some (.ref f :: rest)) (l : K.lookup f = some ⟨oc, od, .func (PySem.W.fnOf x qual (defArgs st) (defBody st) (defScope st) dV kV doc pm an cdv ct), osl⟩) (c : PySem.W.codeIn K cdv qual = true)
    (k : (PySem.W.readsIn K C (.type "type") && (PySem.W.specialIn K (.ref C) "__getattribute__" == some (some (.builtin "type.__getattribute__"))) && PySem.W.fnIn K f && dflB K dV dd) = true) : CmW K C x qual st dd := by
  simp only [Bool.and_eq_true, beq_iff_eq] at k
  exact ⟨p, f, _, ⟨oc, od, dV, kV, doc, pm, an, cdv, ct, osl, rfl, l, c, k.2⟩, ⟨k.1.1.1, k.1.1.2⟩, ⟨a, ⟨rest, r⟩, k.1.2⟩⟩
def CfW (P : Program) (w : World) (K : PySem.W.Frag) (mg : Str → Option Value) (base : Heap) (S : Sg) (k c : Nat) (x qual : Str) (st : Stmt) (dd : List D) (ps : List Str) (mf : List D → M D) : Prop :=
  ∃ p f fd, FnG P w K mg base k f fd ps (spM S mf) ∧ FunW K x qual st dd f fd ∧ ClX.CRead K (S.ca c) (.type "type") ∧ ClX.CMet K (S.ca c) (.type "type") x p f
def CmT (P : Program) (w : World) (K : PySem.W.Frag) (mg : Str → Option Value) (base : Heap) (S : Sg) (k c : Nat) (x : Str) (n : Nat) (ks : List Str) (dd : List D) (l : List Src) (mf : List D → M D) : Prop :=
  ∃ p f fd ps dvs, FnG P w K mg base k f fd ps (spM S mf) ∧ ClX.CRead K (S.ca c) (.type "type") ∧ ClX.CMet K (S.ca c) (.type "type") x p f ∧ Bd K fd ps (n + 1) ks dvs (.p 0 :: l.map Src.up) ∧ ∀ G pen, Reps S G pen dvs dd
theorem CfW.t {P : Program} {w : World} {K : PySem.W.Frag} {mg : Str → Option Value} {base : Heap} {S : Sg} {k c n : Nat} {x qual : Str} {st : Stmt} {dd dvs : List D} {ps ks : List Str} {l : List Src} {mf : List D → M D} (F : CfW P w K mg base S k c x qual st dd ps mf)
    (hb : ∀ f fd, FunW K x qual st dd f fd → Bd K fd ps (n + 1) ks (dvs.map dvV) (.p 0 :: l.map Src.up)) (hd : dvs.all dvFlat = true) : CmT P w K mg base S k c x n ks dvs l mf := by
  obtain ⟨p, f, fd, h1, h2, h3, h4⟩ := F
  exact ⟨p, f, fd, ps, dvs.map dvV, h1, h3, h4, hb f fd h2, fun _ _ => dv_reps hd⟩
def mCM (c : Nat) (f : List D → M D) (n k : Nat) (dd : List D) (l : List Src) (a b : AX) : EX := fun δ => (a δ).bnd fun x => (b δ).bnd fun y => if x.length = n ∧ y.length = k then f (.cls c :: pick x dd y l) else M.stuck
section
variable {X : Cx} {m : Am} {j k n c : Nat} {es : List Expr} {kws : List Keyword} {ks : List Str} {ra rk : AX} {pos apos p : Pos} {x y : Str} {dd : List D} {l : List Src} {mf : List D → M D} {pl : Sem Bool}
theorem me_clm (B : Bx X m j) (T : CmT X.prog X.w X.K X.mg X.base m.S k c x n ks dd l mf) (hk : Nat.ble k j = true) (hm : X.mg y = some (.ref (m.S.ca c))) (hg : gloB X.env.scope y = true) (hy : nmB y = true) (ha : PAM X es kws n ks (tAK m n ks.length ra rk))
    (ht : eval (.Call (.Attribute (.Name y p) x apos) es kws pos) X.env = (do
      let ov ← eval (.Name y p) X.env
      standAt apos.atName
      let (f, first) ← holding [ov] (getMethod ov x pl)
      callWith pos f first (backTo pos (starEach es X.env)) (backToKw pos (keywordEach kws X.env))) := by rfl) :
    PE X (.Call (.Attribute (.Name y p) x apos) es kws pos) (tE m (mCM c mf n ks.length dd l ra rk)) := by
  obtain ⟨pr, f, fd, ps, dvs, F, hR, hM, hb, hdd⟩ := T
  refine ⟨fun pins s σ H Q I h => ?_⟩
  refine PySem.W.methodCall_KW (pl := pl) (ld_glob I (gl_of hg) hm ?_ (nmB_of hy).1) ht
  refine ClX.getmethcm_ok I hR hM fun s2 I2 => ?_
  refine ha.run pos _ f (.ref (m.S.ca c)) pins s2 σ H _ _ hM.fi I2 (tAK_gen h) fun us ws s3 vs zs H2 I3 r rz l1 l2 ⟨G, p, δ, ds, es, w, sl, r1, r2, h5⟩ => ?_
  obtain ⟨its, vd, bd⟩ := hb.ex
  have e1 : pick (V.ref (m.S.ca c) :: vs) dvs zs (.p 0 :: l.map Src.up) = V.ref (m.S.ca c) :: pick vs dvs zs l := pick_self _ _ _ _ _
  have e2 : pick (Value.ref (m.S.ca c) :: us) its ws (.p 0 :: l.map Src.up) = Value.ref (m.S.ca c) :: pick us its ws l := pick_self _ _ _ _ _
  have bt := bd s3 (Value.ref (m.S.ca c) :: us) ws I3.kIn (by rw [List.length_cons, l1]) l2
  rw [e2] at bt
  have sp : spM m.S mf (V.ref (m.S.ca c) :: pick vs dvs zs l) H2 Q (WE m.W σ) := ⟨m.pen, G, p, _, w, .cons (.cls c) (reps_pick r1 (hdd G m.pen) r2 l), h5⟩
  refine wpAny_mono (wpAny_call (PySem.W.method_call (ClX.pin_at I3) (codeAny_mono ((F.mono (Nat.le_of_ble_eq_true hk)).run X.A X.stack s3 H2 ⟨Value.ref (m.S.ca c) :: us, ks.zip ws⟩ (Value.ref (m.S.ca c) :: pick us its ws l) (V.ref (m.S.ca c) :: pick vs dvs zs l) Q (WE m.W σ) B.hq B.hr I3.env0 bt (.cons rfl (vals_pick r vd rz l)) sp) (R' := fun r s' => match r with | .ok (.ret v) => EP X ((s.heap.objs.size, PySem.W.methodObj (.ref f) (.ref (m.S.ca c))) :: pins) σ Q v s' | .ok _ => False | .error e => X.xe e s') fun r s' hq => ?_))) (fun v s' z => ClX.unpinE z) fun _ _ z => z
  cases r with
  | error e => exact passAt B.tk σ _ H2 s3 e s' I3 hq
  | ok fl =>
    cases fl with
    | ret u => exact I3.after hq
    | next => exact False.elim hq
    | brk => exact False.elim hq
    | cont => exact False.elim hq
end
end ME

/-! Properties of own classes. -/
namespace ME
open PySem PySem.Spec PyProof.Rows L2
def PrW (K : PySem.W.Frag) (C : Addr) (f qual : Str) (st : Stmt) : Prop := ∃ p g fd, FunW K f qual st [] g fd ∧ PropOf K C f p g ∧ Cls K C
theorem prW_mk {K : PySem.W.Frag} {C p g : Addr} {f qual : Str} {st : Stmt} {rest : List Value} {oc dV kV doc pm cdv ct : Value} {od an : Option Addr} {osl : Array (Option Value)} (a : PySem.W.findIn K (.ref C) f = some (some (.ref p)))
    (r : PySem.W.recIn K p "property" = some (.ref g :: rest)) (l : K.lookup g = some ⟨oc, od, .func (PySem.W.fnOf f qual (defArgs st) (defBody st) (defScope st) dV kV doc pm an cdv ct), osl⟩) (c : PySem.W.codeIn K cdv qual = true)
    (k : ((PySem.W.specialIn K (.ref p) "__get__" == some (some (.builtin "property.__get__"))) && (PySem.W.takesIn K (.ref p) == some true) && clsB K C && dflB K dV []) = true) : PrW K C f qual st := by
  simp only [Bool.and_eq_true, beq_iff_eq] at k
  exact ⟨p, g, _, ⟨oc, od, dV, kV, doc, pm, an, cdv, ct, osl, rfl, l, c, k.2⟩, ⟨a, k.1.1.1, k.1.1.2, rest, r⟩, clsB_of k.1.2⟩
/-- the property f of the class number c computes mf -/
def PropT (P : Program) (w : World) (K : PySem.W.Frag) (mg : Str → Option Value) (base : Heap) (S : Sg) (k c : Nat) (f : Str) (mf : List D → M D) : Prop :=
  ∃ p g fd ps, FnG P w K mg base k g fd ps (spM S mf) ∧ PropOf K (S.ca c) f p g ∧ Cls K (S.ca c) ∧ Bd K fd ps 1 [] [] [.p 0]
theorem PropT.mono {P : Program} {w : World} {K : PySem.W.Frag} {mg : Str → Option Value} {base : Heap} {S : Sg} {j k c : Nat} {f : Str} {mf : List D → M D} (F : PropT P w K mg base S j c f mf) (h : Nat.ble j k = true) : PropT P w K mg base S k c f mf := by
  obtain ⟨p, g, fd, ps, h1, r⟩ := F
  exact ⟨p, g, fd, ps, h1.mono (Nat.le_of_ble_eq_true h), r⟩
section
variable {X : Cx} {m : Am} {j k : Nat} {f : Str} {e : Expr} {ea : EX} {pos : Pos}
theorem me_prop {tbl : OTab} (B : Bx X m j) (T : ∀ c mf, tbl.lookup c = some mf → PropT X.prog X.w X.K X.mg X.base m.S k c f mf) (hk : Nat.ble (k + 1) j = true) (he : PE X e (tE m ea)) (hab : attributeBase e f X.env (eval e X.env) = eval e X.env := by rfl) : PE X (.Attribute e f pos) (tE m (mUn (dOwn1 tbl) ea)) := by
  refine ⟨fun pins s σ H Q I h => ?_⟩
  refine attr_of hab (thn (he.run pins s σ H _ I (tY_bind (R1 := m.rE) r0_mono h)) fun u s1 ⟨x, H1, I1, rx, h2⟩ => ?_)
  obtain ⟨G, p, δ, ⟨_, d⟩, w, sl, ⟨_, r⟩, h3⟩ := h2
  have r : Rep m.S G m.pen x d := r
  cases id r with
  | @obj a dx c vs ds ha hl rr =>
    dsimp only [dOwn1] at h3
    cases el : tbl.lookup c with
    | none => rw [el] at h3; exact h3.elim
    | some mf =>
      rw [el] at h3
      obtain ⟨pa, g, fd, ps, F, hp, hc, hb⟩ := T c mf el
      cases (show u = Value.ref a from rx)
      obtain ⟨mA, O, _⟩ := ins_get I1.hok (w.sub _ _ ha)
      obtain ⟨od, J, _⟩ := O.look
      obtain ⟨rest, hrec⟩ := hp.rec_
      have I2 := I1.tok (s1.toks + 1)
      have hr : Room (k + 1) X.A := B.hr.mono (Nat.le_of_ble_eq_true hk)
      have hcl : (PySem.W.clsIn X.K (m.S.ca c)).isSome = true := by
        obtain ⟨cd, q, _⟩ := PySem.W.any_some hc.hd
        rw [q]; rfl
      refine PySem.W.get_bind I1.kIn J (PySem.W.plainGet_of (hc.get f)).1 (PySem.W.findObj_data hcl hp.at_ hp.get hp.tak) (PySem.W.plainGet_of (hc.get f)).2 (wpAny_call (PySem.W.prop_get (s := { s1 with toks := s1.toks + 1 }) I1.kIn hrec ?_))
      obtain ⟨its, vd, bd⟩ := hb.ex
      cases vd
      have bt := bd { s1 with toks := s1.toks + 1 } [.ref a] [] I2.kIn rfl rfl
      have sp : spM m.S mf [.ref a] H1 Q (fun _ _ _ => False) := ⟨m.pen, G, p, _, w, .cons r .nil, post_calm h3⟩
      refine codeAny_mono (F.run X.A.in1 X.stack { s1 with toks := s1.toks + 1 } H1 ⟨[.ref a], []⟩ [.ref a] [.ref a] Q (fun _ _ _ => False) B.hq hr.in1 I2.env0.in1 bt (.cons rfl .nil) sp) fun r s' hq => ?_
      cases r with
      | error er =>
        obtain ⟨_, _, _, _, _, _, _, _, _, _, _, _, z⟩ := hq
        exact z.elim
      | ok fl =>
        cases fl with
        | ret u =>
          obtain ⟨v, H', I3, rv, q3⟩ := I2.after hq
          show wpAny _ _ (handedOut u) _ _ _
          rw [PySem.W.handedOut_of (handed_of rv)]
          exact wpAny_pure ⟨v, H', I3, rv, q3⟩
        | next => exact False.elim hq
        | brk => exact False.elim hq
        | cont => exact False.elim hq
  | _ => exact h3.elim
end
end ME

/-! sorted(set(texts)), len(set(texts)). The first half turns the library's walk through sets of ints to texts. -/
namespace ME
open PySem PySem.Spec PyProof.Rows L2
abbrev strKind := PySem.strKind
def keyS (e : Int × Value) : Str := match e.2 with | .str k _ => k | _ => Str.empty
def GoodS (w : World) (e : Int × Value) : Prop := ∃ k tk, e.2 = Value.str k tk ∧ e.1 = hashStr w k
def SetRS (P : Program) (w : World) (h : Heap) (a : Addr) (S : Str → Bool) (n : Nat) : Prop :=
  ∃ o es ep t, h.get? a = some o ∧ o.ExactSet ∧ o.data = .set es ep t ∧ (∀ e ∈ es.toList, GoodS w e) ∧ (es.toList.map keyS).Nodup ∧ (∀ k, S k = true ↔ k ∈ es.toList.map keyS) ∧
    es.size < scanBound ∧ t.fits es.size = true ∧ es.size = n ∧ Ris t.place.toList ∧ (w.params.followText "set-order" = true ∨ t.led = true)
section
variable {P : Program} {w : World} {h h' : Heap} {a : Addr} {S : Str → Bool} {n : Nat}
theorem SetRS.at (R : SetRS P w h a S n) (k : ∀ o, h.get? a = some o → h'.get? a = some o) : SetRS P w h' a S n := by
  obtain ⟨o, es, ep, t, ho, r⟩ := R
  exact ⟨o, es, ep, t, k o ho, r⟩
theorem SetRS.congr {S' : Str → Bool} (R : SetRS P w h a S n) (e : ∀ k, S' k = S k) : SetRS P w h a S' n := by
  have q : S' = S := funext e
  rw [q]; exact R
theorem goodS_elems {l : List (Int × Value)} (g : ∀ e ∈ l, GoodS w e) : ElemsOf (strKind P w) l := fun e he => by
  obtain ⟨k, tk, h1, h2⟩ := g e he
  exact ⟨⟨k, by rw [h1]; exact strKind_is P w k tk, h2⟩, by rw [h1] <;> rfl⟩
theorem goodS_is {e : Int × Value} (g : GoodS w e) (k : Str) : (strKind P w).is k e.2 = true ↔ keyS e = k := by
  obtain ⟨k0, tk, h1, _⟩ := g
  unfold keyS
  rw [h1]
  show (Value.isStrOf k (.str k0 tk) = true) ↔ k0 = k
  simp [Value.isStrOf]
theorem goodS_mem {l : List (Int × Value)} (g : ∀ e ∈ l, GoodS w e) (k : Str) : k ∈ l.map keyS ↔ ∃ e ∈ l, (strKind P w).is k e.2 = true := by
  rw [List.mem_map]
  constructor
  · rintro ⟨e, he, q⟩
    exact ⟨e, he, (goodS_is (g e he) k).2 q⟩
  · rintro ⟨e, he, q⟩
    exact ⟨e, he, (goodS_is (g e he) k).1 q⟩
theorem setRS_new_at {ns : List Str} (ho : h.get? a = some { cls := .type "set", dict := none, data := .set #[] 0 (.fresh 0 0 (!w.params.followText "set-order")) }) : SetRS P w h a (fun j => decide (j ∈ ns.take 0)) 0 :=
  ⟨_, #[], 0, _, ho, ⟨rfl, rfl, rfl⟩, rfl, (fun e he => by simp at he), (by simp), (fun k => by simp), (by decide), (by rfl), rfl, List.Pairwise.nil, by
    show _ ∨ (!w.params.followText "set-order") = true
    cases w.params.followText "set-order"
    · exact .inr rfl
    · exact .inl rfl⟩
end
section
variable {P : Program} {w : World} {A : Around} {E : Value → Shared → Prop} {s : Shared} {a : Addr} {S : Str → Bool} {n : Nat}
theorem setRS_add_tail {g : Bool → Sem Unit} (hg : ∀ (b : Bool) (s₁ : Shared) (Q' : Unit → Shared → Prop), Q' () s₁ → wpAny (model P w) A (g b) Q' E s₁)
    {o : Obj} {es : Array (Int × Value)} {ep : Nat} {t : SetTable} (ho : s.heap.get? a = some o) (hex : o.ExactSet) (hd : o.data = .set es ep t)
    {es1 : Array (Int × Value)} {t2 : SetTable} {S' : Str → Bool} (g1 : ∀ e ∈ es1.toList, GoodS w e) (nd1 : (es1.toList.map keyS).Nodup) (m1 : ∀ k, S' k = true ↔ k ∈ es1.toList.map keyS)
    (hb1 : es1.size < scanBound) (hf2 : t2.fits es1.size = true) (hr : Ris t2.place.toList) (hl : w.params.followText "set-order" = true ∨ t2.led = true) {wasDummy : Bool} {R : Option Bool → Shared → Prop}
    (hR : ∀ h', Heap.SameBut a s.heap h' → SetRS P w h' a S' es1.size → R (some true) { s with heap := h' }) :
    wpAny (model P w) A (do
        storeSet a es1 t2
        if (!wasDummy && t2.tooFull) = true then do
            g (relayAll t2 es1 (SetTable.grown es1.size)).2.2
            storeSet a (relayAll t2 es1 (SetTable.grown es1.size)).1 (relayAll t2 es1 (SetTable.grown es1.size)).2.1
            pure (some true)
          else pure (some true)) R E s := by
  refine wpAny_bind (wpAny_storeSet_of ho hd ?_ (fits_of_scanBound hb1))
  have ho1 := store_at (es' := es1) (t' := t2) ho hd
  have sb1 := Heap.SameBut.update s.heap a (Obj.putSet es1 t2)
  split
  · have pm := relayAll_perm t2 es1 (SetTable.grown es1.size)
    have hf3 := relayAll_fits t2 es1 (SetTable.grown es1.size)
    have hr3 := relayAll_ris t2 es1 (SetTable.grown es1.size)
    have hl3 := relayAll_led t2 es1 (SetTable.grown es1.size)
    generalize relayAll t2 es1 (SetTable.grown es1.size) = Z at pm hf3 hr3 hl3 ⊢
    obtain ⟨es2, t3, gave⟩ := Z
    dsimp only at pm hf3 hr3 hl3 ⊢
    have hsz : es2.size = es1.size := by rw [← Array.length_toList, pm.length_eq, Array.length_toList]
    have hb2 : es2.size < scanBound := by rw [hsz]; exact hb1
    refine wpAny_bind (hg _ _ _ ?_)
    refine wpAny_bind (wpAny_storeSet_of ho1 rfl ?_ (fits_of_scanBound hb2))
    have ho2 := store_at (es' := es2) (t' := t3) ho1 rfl
    refine wpAny_pure (hR _ (sb1.trans (Heap.SameBut.update _ a _)) ?_)
    exact ⟨_, es2, _, t3, ho2, hex, rfl, fun e he => g1 e (pm.mem_iff.mp he), (pm.map keyS).nodup_iff.mpr nd1, fun k => (m1 k).trans (pm.map keyS).mem_iff.symm, hb2, hf3, hsz, hr3,
      hl.imp id fun z => by rw [hl3]; exact z⟩
  · exact wpAny_pure (hR _ sb1 ⟨_, es1, _, t2, ho1, hex, rfl, g1, nd1, m1, hb1, hf2, rfl, hr, hl⟩)

theorem setRS_add_hashed {k : Str} {tk : Tok} {Q : Bool → Shared → Prop} (R : SetRS P w s.heap a S n) (room : n + 1 < scanBound)
    (hQ : ∀ h', Heap.SameBut a s.heap h' → SetRS P w h' a (fun j => S j || decide (j = k)) (if S k = true then n else n + 1) → Q (!S k) { s with heap := h' }) :
    wpAny (model P w) A (setAddHashed a (.str k tk) ((strKind P w).hash k)) Q E s := by
  obtain ⟨o, es, ep, t, ho, hex, hd, g, nd, hm, hb, hf, hn, hr, hl⟩ := R
  have hkey : (strKind P w).is k (.str k tk) = true := strKind_is P w k tk
  have hsc : (Value.str k tk).scannable = true := rfl
  have hel : ElemsOf (strKind P w) es.toList := goodS_elems g
  unfold setAddHashed setAddHashedIn
  refine wpAny_holding (wpAny_bind (wpAny_setState_of ho hd hf ?_))
  dsimp only
  rw [byScan_of hsc hb hel]
  simp only [↓reduceIte]
  unfold setAddByScan
  refine wpAny_bind ?_
  refine wpAny_bind (wpAny_rule ?_)
  refine wpAny_bind (wpAny_setScan_of hkey ho hd hf hel ?_)
  cases hfi : List.findIdx? (fun e => (strKind P w).is k e.2) es.toList with
  | some j =>
    dsimp only
    obtain ⟨hj, pj, _⟩ := List.findIdx?_eq_some_iff_getElem.mp hfi
    have hSk : S k = true := (hm k).2 ((goodS_mem (P := P) (w := w) g k).2 ⟨es.toList[j], List.getElem_mem hj, pj⟩)
    refine wpAny_pure (wpAny_pure ?_)
    have q := hQ s.heap (Heap.SameBut.refl a s.heap) ⟨o, es, ep, t, ho, hex, hd, g, nd, fun i => by
      rw [Bool.or_eq_true, decide_eq_true_eq, ← hm i]
      exact ⟨fun z => z.elim id (fun e => e ▸ hSk), .inl⟩, hb, hf, by rw [if_pos hSk]; exact hn, hr, hl⟩
    rw [hSk] at q
    exact q
  | none =>
    dsimp only
    have hnk : k ∉ es.toList.map keyS := fun z => by
      obtain ⟨e, he, q⟩ := (goodS_mem (P := P) (w := w) g k).1 z
      have c := List.findIdx?_eq_none_iff.mp hfi e he
      rw [q] at c
      cases c
    have hSk : S k = false := by
      cases q : S k with
      | false => rfl
      | true => exact absurd ((hm k).1 q) hnk
    have hgw : ∀ (b : Bool) {s₁ : Shared} {Q' : Unit → Shared → Prop}, Q' () s₁ → wpAny (model P w) A (match b with | true => rule "set.scan.the-table-gave-way" | false => pure ()) Q' E s₁ :=
      fun b s₁ Q' q => by cases b <;> first | exact wpAny_pure q | exact wpAny_rule q
    have pm := layNew_perm t es ((strKind P w).hash k) (.str k tk)
    have hf1 := layNew_fits t es ((strKind P w).hash k) (.str k tk)
    have hr1 := layNew_ris t es ((strKind P w).hash k) (.str k tk) hr
    have hl1 := layNew_led t es ((strKind P w).hash k) (.str k tk)
    generalize layNew t es ((strKind P w).hash k) (.str k tk) = Z at pm hf1 hr1 hl1 ⊢
    obtain ⟨es1, t1, wasDummy, gave⟩ := Z
    dsimp only at pm hf1 hr1 hl1 ⊢
    rw [Array.toList_push] at pm
    have pc : es1.toList.Perm (((strKind P w).hash k, Value.str k tk) :: es.toList) := pm.trans (List.perm_append_singleton _ _)
    have pk : (es1.toList.map keyS).Perm (k :: es.toList.map keyS) := pc.map keyS
    have g1 : ∀ e ∈ es1.toList, GoodS w e := fun e he => by
      rcases List.mem_cons.mp (pc.mem_iff.mp he) with z | z
      · rw [z]; exact ⟨k, tk, rfl, rfl⟩
      · exact g e z
    have nd1 : (es1.toList.map keyS).Nodup := pk.nodup_iff.mpr (List.nodup_cons.mpr ⟨hnk, nd⟩)
    have m1 : ∀ i, (S i || decide (i = k)) = true ↔ i ∈ es1.toList.map keyS := fun i => by
      rw [Bool.or_eq_true, decide_eq_true_eq, hm i, pk.mem_iff, List.mem_cons]
      exact Or.comm
    have hsz : es1.size = n + 1 := by rw [← Array.length_toList, pc.length_eq, List.length_cons, Array.length_toList, hn]
    have hb1 : es1.size < scanBound := by rw [hsz]; exact room
    have hled : w.params.followText "set-order" = true ∨ t1.led = true := hl.imp id fun z => by rw [hl1]; exact z
    have fin : ∀ h', Heap.SameBut a s.heap h' → SetRS P w h' a (fun j => S j || decide (j = k)) es1.size → Q true { s with heap := h' } := fun h' sb r => by
      have q := hQ h' sb
      rw [hSk] at q
      rw [hsz] at r
      exact q r
    refine wpAny_bind (hgw _ ?_)
    split
    · refine wpAny_bind ?_
      rw [hashByValue_scannable 8 hsc]
      refine wpAny_pure ?_
      refine setRS_add_tail ?_ ho hex hd g1 nd1 m1 hb1 ?_ ?_ ?_ ?_
      · intro b s₁ Q' q; cases b <;> first | exact wpAny_pure q | exact wpAny_rule q
      · first | (split <;> first | exact hf1 | exact SetTable.fits_plain_off hf1) | exact hf1
      · first | (split <;> exact hr1) | exact hr1
      · first | (split <;> exact hled) | exact hled
      · intro h' sb r; dsimp only; exact wpAny_pure (fin h' sb r)
    · refine wpAny_bind (wpAny_pure ?_)
      simp only [↓reduceIte]
      refine setRS_add_tail ?_ ho hex hd g1 nd1 m1 hb1 hf1 hr1 hled ?_
      · intro b s₁ Q' q; cases b <;> first | exact wpAny_pure q | exact wpAny_rule q
      · intro h' sb r; dsimp only; exact wpAny_pure (fin h' sb r)
theorem set_update_strs {I : Addr} {fp wr : List Addr} {G : Array GenState → Array GenState → Prop} {n : Nat} {Pv : Nat → Value → Prop} {St : Nat → Shared → Prop} {R : Result → Shared → Prop}
    (W : WalksS P w A.in1 I fp wr G n Pv St) (S : Addr) (hSf : S ∉ fp) (ns : List Str) (hn : n = ns.length) (hb : ns.length + 1 < scanBound) (hval : ∀ i v, Pv i v → ∃ k t, ns[i]? = some k ∧ v = .str k t) :
    ∀ (k i : Nat) (s : Shared), n - i = k → i ≤ n → St i s → (∃ c, c ≤ i ∧ SetRS P w s.heap S (fun j => decide (j ∈ ns.take i)) c) →
      (∀ s' c, Moved (S :: wr) G s s' → c ≤ n → SetRS P w s'.heap S (fun j => decide (j ∈ ns)) c → R (.ok (.ret .none)) s') →
      codeAny (model P w) A (.builtin "set.update.loop" ⟨[.ref S, .ref I], []⟩) R s := by
  have hSw : S ∉ wr := fun h => hSf (W.sub _ h)
  have hsub : ∀ b ∈ wr, b ∈ S :: wr := fun b hb => List.mem_cons_of_mem _ hb
  intro k
  induction k with
  | zero =>
    intro i s hk' hi hst ⟨c, hc, hS⟩ hR
    have hin : i = n := by omega
    subst hin
    refine codeAny_builtin F.entry_set_update_loop ?_
    rw [Around.under_plainId F.plain_set_update_loop _]
    show wpAny _ A.in1 (pyNext (.ref I) >>= _) _ _ s
    refine wpAny_bind (W.done s _ _ hst fun s' hm => ?_)
    show wpAny _ A.in1 (ret Value.none) _ _ s'
    have e : ns.take i = ns := List.take_of_length_le (by omega)
    rw [e] at hS
    exact wpAny_pure (hR s' c (hm.mono hsub) hc (hS.at fun o e => hm.heap S o hSw e))
  | succ k ih =>
    intro i s hk' hi hst ⟨c, hc, hS⟩ hR
    have hlt : i < n := by omega
    refine codeAny_builtin F.entry_set_update_loop ?_
    rw [Around.under_plainId F.plain_set_update_loop _]
    show wpAny _ A.in1 (pyNext (.ref I) >>= _) _ _ s
    refine wpAny_bind (W.item i s _ _ hlt hst fun v s' hP hst' hm => ?_)
    obtain ⟨z, t, hz, rfl⟩ := hval i v hP
    have hS' : SetRS P w s'.heap S (fun j => decide (j ∈ ns.take i)) c := hS.at fun o e => hm.heap S o hSw e
    show wpAny _ A.in1 (holding [Value.str z t] (setAdd S (.str z t)) >>= _) _ _ s'
    refine wpAny_bind (wpAny_holding ?_)
    unfold setAdd
    refine wpAny_holding ?_
    refine wpAny_bind ((strKind P w).pyHash (k := z) (strKind_is _ _ _ _) ?_)
    refine setRS_add_hashed (s := { s' with toks := s'.toks + 1 }) hS' (by omega) fun h' hsb hS2 => ?_
    have hS3 : SetRS P w h' S (fun j => decide (j ∈ ns.take (i + 1))) (if decide (z ∈ ns.take i) = true then c else c + 1) := hS2.congr fun j => by
      rw [List.take_add_one, hz]
      simp [List.mem_append]
    have hc3 : (if decide (z ∈ ns.take i) = true then c else c + 1) ≤ i + 1 := by
      split <;> omega
    refine wpAny_pure ⟨plainId_quiet F.plain_set_update_loop _, ih (i + 1) _ (by omega) hlt (W.frame _ s' _ _ hst' (Nat.le_succ _) fun b hb o e => ?_) ⟨_, hc3, hS3⟩ fun s'' c2 hm'' hc'' hS'' => ?_⟩
    · rw [hsb.2 b (fun h : b = S => hSf (by rw [← h]; exact hb))]; exact e
    · refine hR s'' c2 (Moved.trans W.gtrans ((hm.mono hsub).then_heap (Nat.le_succ _) fun b o hb e => ?_) hm'') hc'' hS''
      rw [hsb.2 b (fun h : b = S => hb (by rw [h]; exact List.mem_cons_self))]; exact e

theorem call_set_listT {l : Addr} {items : Array Value} (ns : List Str) {Q : Value → Shared → Prop} (hh : A.handled = none) (hl : s.heap.IsList l items) (hit : StrsAre items.toList ns) (hb : ns.length + 1 < scanBound)
    (h : ∀ (h' : Heap) (tk c : Nat), SetRS P w h' s.heap.objs.size (fun j => decide (j ∈ ns)) c → c ≤ ns.length → (∀ b o, s.heap.get? b = some o → h'.get? b = some o) → Q (.ref s.heap.objs.size) { s with heap := h', toks := tk }) :
    wpAny (model P w) A (call (.type "set") [.ref l]) Q E s := by
  have hisz : items.size = ns.length := by
    have q := StrsAre.length hit
    rw [Array.length_toList] at q
    exact q
  obtain ⟨c, tl, hmro⟩ := F.called_set.mro
  have hmade := F.called_set.made
  have hsub := F.called_set.sub
  refine wpAny_call (codeAny_of_tree ?_)
  show wpAny _ _ (callAny (.type "set") _) _ _ _
  refine wpAny_pure ⟨Code.quiet_builtin _ (by decide +kernel), codeAny_builtin F.entry_type_call ?_⟩
  rw [Around.under_plain (weight_type_call_type "set" [.ref l] []) rfl]
  have h1 := F.called_set.notType
  have h2 := F.called_set.canCreate
  have hct := F.typeCall_set_1 (.ref l)
  repeat (any_goals (first | assumption | wp_step))

  refine codeAny_mono (code_set_led1 (.ref l) (E := E) (Q₁ := fun obj s₁ => obj = .ref s.heap.objs.size ∧ s₁ = { s with heap := s.heap.push { cls := .type "set", dict := none, data := .set #[] 0 (.fresh 0 0 (!w.params.followText "set-order")) } }) ⟨rfl, rfl⟩) fun r s₁ hr => ?_
  cases r with
  | error e => exact hr
  | ok fl =>
    cases fl with
    | ret obj =>
      obtain ⟨rfl, rfl⟩ := hr
      have hS : (s.heap.push { cls := .type "set", dict := none, data := .set #[] 0 (.fresh 0 0 (!w.params.followText "set-order")) }).get? s.heap.objs.size = some { cls := .type "set", dict := none, data := .set #[] 0 (.fresh 0 0 (!w.params.followText "set-order")) } := Heap.get?_push_size _ rfl
      have hT : Shared.TypeIs { s with heap := s.heap.push { cls := .type "set", dict := none, data := .set #[] 0 (.fresh 0 0 (!w.params.followText "set-order")) } } (.ref s.heap.objs.size) "set" := ⟨_, hS, rfl⟩
      have hli := F.called_set.init.lookup
      have hbi := F.called_set.init.bind (.ref s.heap.objs.size)
      repeat (any_goals (first | assumption | wp_step))

      refine codeAny_mono (codeAny_call_builtin (R := wants (fun r s₂ => r = .none ∧ ∃ h' tk c, s₂ = { s with heap := h', toks := tk } ∧ SetRS P w h' s.heap.objs.size (fun j => decide (j ∈ ns)) c ∧ c ≤ ns.length ∧
          (∀ b o, s.heap.get? b = some o → h'.get? b = some o)) E) F.called_set.init.plain F.entry_set_init (check_set_init_1 hT ?_)) fun r₂ s₂ hr₂ => ?_
      · obtain ⟨ol, hol, hcl, nl, hdl⟩ := hl
        obtain ⟨ocls, odict, odata, oslots⟩ := ol
        simp only at hcl hdl
        subst hcl; subst hdl
        have hol' : (s.heap.push { cls := .type "set", dict := none, data := .set #[] 0 (.fresh 0 0 (!w.params.followText "set-order")) }).get? l = some { cls := .type "list", dict := odict, data := .seq items nl, slots := oslots } := Heap.get?_push_of_some _ hol
        have hsls := F.sub_list_set
        have hslf := F.sub_list_frozenset
        have hne : (Value.type "list" == Value.type "dict") = false := by decide
        have hl1 : (s.heap.push { cls := .type "set", dict := none, data := .set #[] 0 (.fresh 0 0 (!w.params.followText "set-order")) }).IsList l items := ⟨_, hol', rfl, nl, rfl⟩
        unfold Builtin.«set.__init__» noKeywords Builtin.Frozenset.updateFrom
        generalize hPI : pyIter = PI
        wp_walk
        subst hPI

        refine wpAny_pyIter_list hl1 ?_
        refine wpAny_bind (wpAny_runValue ?_)
        have hlS : l < s.heap.objs.size := Heap.lt_size hol
        have hh3 : A.in1.in1.in1.handled = none := by simp [hh]
        have hz1 : (s.heap.push { cls := .type "set", dict := none, data := .set #[] 0 (.fresh 0 0 (!w.params.followText "set-order")) }).objs.size = s.heap.objs.size + 1 := Heap.size_push ..
        have hneI : l ≠ (s.heap.push { cls := .type "set", dict := none, data := .set #[] 0 (.fresh 0 0 (!w.params.followText "set-order")) }).objs.size := by
          rw [Heap.size_push]; exact Nat.ne_of_lt (Nat.lt_succ_of_lt hlS)
        have hSf : s.heap.objs.size ∉ [(s.heap.push { cls := .type "set", dict := none, data := .set #[] 0 (.fresh 0 0 (!w.params.followText "set-order")) }).objs.size, l] := by
          rw [Heap.size_push]; simp only [List.mem_cons, List.mem_singleton, List.not_mem_nil, or_false, not_or]
          exact ⟨Nat.ne_of_lt (Nat.lt_succ_self _), Nat.ne_of_gt hlS⟩
        have hval : ∀ (i : Nat) (v : Value), items[i]? = some v → ∃ k t, ns[i]? = some k ∧ v = .str k t := fun i v hv => by
          have hi : i < ns.length := by rw [← hisz]; exact (Array.getElem?_eq_some_iff.mp hv).1
          obtain ⟨t, e⟩ := SS.strs_at hit i v (by rw [Array.getElem?_toList]; exact hv)
          refine ⟨ns[i], t, List.getElem?_eq_getElem hi, ?_⟩
          rw [e, List.getD_eq_getElem?_getD, List.getElem?_eq_getElem hi] <;> rfl
        refine set_update_strs ((Walks.list hh3 _ l hneI items).toS) s.heap.objs.size
          hSf ns hisz hb hval (items.size - 0) 0 _ (by omega) (Nat.zero_le _)
          ⟨⟨_, Heap.get?_push_size _ rfl, rfl, rfl⟩, (hl1.push _)⟩ ?hS0 ?hR
        case hS0 =>
          have hget : ((s.heap.push { cls := .type "set", dict := none, data := .set #[] 0 (.fresh 0 0 (!w.params.followText "set-order")) }).push { cls := .type "list_iterator", data := .fields #[.ref l, .int 0 0] }).get? s.heap.objs.size
              = some { cls := .type "set", dict := none, data := .set #[] 0 (.fresh 0 0 (!w.params.followText "set-order")) } := Heap.get?_push_of_some _ hS
          exact ⟨0, Nat.le_refl 0, setRS_new_at hget⟩
        case hR =>
          intro s' c' hm hc' hS'
          obtain ⟨h', g2, d', tk', os'⟩ := s'
          have eg : g2 = s.gens := hm.gens
          have ed : d' = s.drawn := hm.drawn
          have eo : os' = s.os := hm.os
          subst eg; subst ed; subst eo
          show wpAny _ _ _ _ _ _
          refine wpAny_pure ?_
          show wpAny _ _ (ret Value.none) _ _ _
          rw [hisz] at hc'
          refine wpAny_pure ⟨rfl, h', tk', c', rfl, hS', hc', fun b o e => ?_⟩
          have hb0 : b < s.heap.objs.size := Heap.lt_size e
          have hb1 : b ≠ s.heap.objs.size := Nat.ne_of_lt hb0
          have hb2 : b ≠ (s.heap.push { cls := .type "set", dict := none, data := .set #[] 0 (.fresh 0 0 (!w.params.followText "set-order")) }).objs.size := by
            rw [Heap.size_push]; exact Nat.ne_of_lt (Nat.lt_succ_of_lt hb0)
          exact hm.heap b o (by simp only [List.mem_cons, List.mem_singleton, List.not_mem_nil, or_false, not_or]; exact ⟨hb1, hb2⟩) (Heap.get?_push_of_some _ (Heap.get?_push_of_some _ e))

      · cases r₂ with
        | error e => exact hr₂
        | ok fl₂ =>
          cases fl₂ with
          | ret r =>
            obtain ⟨rfl, h', tk, c', rfl, hS', hc', hk'⟩ := hr₂
            repeat (any_goals (first | assumption | wp_step))
            exact h _ _ _ hS' hc' hk'
          | _ => exact hr₂.elim
    | _ => exact hr.elim

theorem sorted_setS {Q : Value → Shared → Prop} (R : SetRS P w s.heap a S n) (hh : A.handled = none) (h64 : n < 64)
    (hQ : ∀ s' p (out : Array Value) (c : Nat) (ns : List Str), (∀ b o, s.heap.get? b = some o → s'.heap.get? b = some o) → s'.gens = s.gens → s'.os = s.os → s.heap.objs.size ≤ p →
      s'.heap.get? p = some (seqObj "list" out c) → StrsAre out.toList ns → sortedS ns = true → ns.Nodup → (∀ k, k ∈ ns ↔ S k = true) → ns.length = n → Q (.ref p) s') :
    wpAny (model P w) A (call (.builtin "sorted") [.ref a]) Q E s := by
  obtain ⟨o, es, ep, t, ho, hex, hd, g, nd, hm, hb, hf, hn, hr, hl⟩ := R
  refine Calls.call_function_entry kind_sorted plain_sorted entry_sorted (args_sorted1 _) ?_
  unfold Builtin.«sorted»
  refine wpAny_bind (m := checkCount "sorted" 1 1 _) (wpAny_pure ?_)
  refine wpAny_bind (collect_set (A := A.in1) hh ⟨o, ho, hex.1, hd⟩ hf hb hr hl fun s1 vs k1 hz g1 o1 pm => ?_)
  have hvl : vs.length = n := by rw [pm.length_eq, List.length_map, Array.length_toList]; exact hn
  have hI : StrsAre vs (vs.map PyProof.Rows.strOf) := strsAre_map vs fun v hv => by
    obtain ⟨e, he, q⟩ := List.mem_map.mp (pm.mem_iff.mp hv)
    obtain ⟨k, tk, h1, _⟩ := g e he
    exact ⟨k, tk, by rw [← q]; exact h1⟩
  have ke : ∀ e ∈ es.toList, PyProof.Rows.strOf e.2 = keyS e := fun e he => by
    obtain ⟨k, tk, h1, _⟩ := g e he
    unfold keyS
    rw [h1]; rfl
  have pk : (vs.map PyProof.Rows.strOf).Perm (es.toList.map keyS) := by
    have q := pm.map PyProof.Rows.strOf
    rw [List.map_map] at q
    have e : es.toList.map (PyProof.Rows.strOf ∘ fun x => x.2) = es.toList.map keyS := List.map_congr_left fun e he => ke e he
    rw [e] at q
    exact q
  refine wpAny_bind (wpAny_newList ?_ (by rw [hvl, sizeLine_eq]; omega))
  have hoL : (s1.heap.push (seqObj "list" vs.toArray 0)).get? s1.heap.objs.size = some (seqObj "list" vs.toArray 0) := Heap.get?_push_size _ rfl
  refine wpAny_bind (wpAny_holding (wpAny_call_entry slot_list_sort ⟨_, hoL, rfl⟩ entry_list_sort (list_sort_treeK strKind_oneLt hoL hI.keysOf (fun v₁ v₂ rest e => keyKind_strs (by rw [← e]; exact hI)) (by rw [hvl]; exact h64) fun st' hp hs => ⟨_, rfl, ?_⟩) (args_list_sort _)))
  obtain ⟨ns', a1, a2, a3⟩ := sorted_out_str hI hp hs
  obtain ⟨c, hc⟩ := sortedHeap_at (vs := vs) (out := (arrOf st').map (·.2)) hoL
  have pn : ns'.Perm (es.toList.map keyS) := a2.trans pk
  refine wpAny_pure ⟨_, rfl, hQ _ s1.heap.objs.size _ c ns' (fun b u e => ?_) g1 o1 hz hc a1 a3 (pn.nodup_iff.mpr nd) (fun k => by rw [pn.mem_iff, ← hm k]) ?_⟩
  · have q := k1 b u e
    have hlt := Heap.lt_size q
    show (sortedHeap (s1.heap.push (seqObj "list" vs.toArray 0)) s1.heap.objs.size vs _).get? b = some u
    rw [sortedHeap_old (Nat.ne_of_lt hlt) (by rw [size_push']; exact Nat.lt_succ_of_lt hlt)]
    exact Heap.get?_push_of_some _ q
  · rw [pn.length_eq, List.length_map, Array.length_toList]; exact hn
end
end ME

/-! sorted(set(texts)), len(set(texts)), sorted(texts) as mirrors. -/
namespace ME
open PySem PySem.Spec PyProof.Rows L2
def ltS (x y : Str) : Bool := ltCps x.cps.toList y.cps.toList
def insU (x : Str) : List Str → List Str
  | [] => [x]
  | y :: r => if x == y then y :: r else if ltS x y then x :: y :: r else y :: insU x r
def srtU : List Str → List Str
  | [] => []
  | x :: r => insU x (srtU r)
theorem ltS_iff {x y : Str} : ltS x y = true ↔ x.cps.toList < y.cps.toList := by
  unfold ltS; rw [ltCps_eq]; simp
theorem str_ext {x y : Str} (h : x.cps.toList = y.cps.toList) : x = y := by
  cases x; cases y
  simp only [Str.mk.injEq]
  exact Array.ext' h
theorem ltS_irr {x : Str} : ltS x x = false := by
  cases h : ltS x x with
  | false => rfl
  | true => exact absurd (ltS_iff.mp h) (List.lt_irrefl _)
theorem ltS_trans {x y z : Str} (h : ltS x y = true) (k : ltS y z = true) : ltS x z = true := ltS_iff.mpr (List.lt_trans (ltS_iff.mp h) (ltS_iff.mp k))
theorem ltS_tri {x y : Str} (h : ltS x y = false) (n : x ≠ y) : ltS y x = true := by
  have h1 : ¬ x.cps.toList < y.cps.toList := fun z => by rw [ltS_iff.mpr z] at h; cases h
  have h2 : y.cps.toList ≤ x.cps.toList := List.not_lt.mp h1
  refine ltS_iff.mpr ?_
  rcases List.le_iff_lt_or_eq.mp h2 with z | z
  · exact z
  · exact absurd (str_ext z.symm) n
abbrev Asc (l : List Str) : Prop := l.Pairwise fun a b => ltS a b = true
theorem mem_insU {x k : Str} : ∀ {l : List Str}, k ∈ insU x l ↔ k = x ∨ k ∈ l
  | [] => by simp [insU]
  | y :: r => by
    unfold insU
    split
    · rename_i e
      have e : x = y := beq_iff_eq.mp e
      subst e
      simp
    · split
      · simp
      · rw [List.mem_cons, mem_insU, List.mem_cons]
        constructor
        · rintro (z | z | z)
          · exact .inr (.inl z)
          · exact .inl z
          · exact .inr (.inr z)
        · rintro (z | z | z)
          · exact .inr (.inl z)
          · exact .inl z
          · exact .inr (.inr z)
theorem asc_insU {x : Str} : ∀ {l : List Str}, Asc l → Asc (insU x l)
  | [], _ => by simp [insU, Asc]
  | y :: r, h => by
    obtain ⟨h1, h2⟩ := List.pairwise_cons.mp h
    unfold insU
    split
    · exact h
    · rename_i ne
      have ne : x ≠ y := fun z => ne (beq_iff_eq.mpr z)
      split
      · rename_i lt
        exact List.pairwise_cons.mpr ⟨fun z hz => by
          rcases List.mem_cons.mp hz with e | hz
          · rw [e]; exact lt
          · exact ltS_trans lt (h1 z hz), h⟩
      · rename_i lt
        have lt : ltS y x = true := ltS_tri (by simpa using lt) ne
        exact List.pairwise_cons.mpr ⟨fun z hz => by
          rcases mem_insU.mp hz with e | hz
          · rw [e]; exact lt
          · exact h1 z hz, asc_insU h2⟩
theorem mem_srtU {k : Str} : ∀ {l : List Str}, k ∈ srtU l ↔ k ∈ l
  | [] => by simp [srtU]
  | x :: r => by rw [srtU, mem_insU, mem_srtU, List.mem_cons]
theorem asc_srtU : ∀ l : List Str, Asc (srtU l)
  | [] => List.Pairwise.nil
  | x :: r => asc_insU (asc_srtU r)
theorem asc_uniq : ∀ {l r : List Str}, Asc l → Asc r → (∀ k, k ∈ l ↔ k ∈ r) → l = r
  | [], [], _, _, _ => rfl
  | [], y :: r, _, _, h => by have := (h y).mpr List.mem_cons_self; simp at this
  | x :: l, [], _, _, h => by have := (h x).mp List.mem_cons_self; simp at this
  | x :: l, y :: r, hl, hr, h => by
    obtain ⟨l1, l2⟩ := List.pairwise_cons.mp hl
    obtain ⟨r1, r2⟩ := List.pairwise_cons.mp hr
    have e : x = y := by
      rcases List.mem_cons.mp ((h x).mp List.mem_cons_self) with e | hx
      · exact e
      · rcases List.mem_cons.mp ((h y).mpr List.mem_cons_self) with e | hy
        · exact e.symm
        · have := ltS_trans (r1 x hx) (l1 y hy)
          rw [ltS_irr] at this; cases this
    subst e
    congr 1
    refine asc_uniq l2 r2 fun k => ⟨fun hk => ?_, fun hk => ?_⟩
    · rcases List.mem_cons.mp ((h k).mp (List.mem_cons_of_mem _ hk)) with e | z
      · have := l1 k hk
        rw [e, ltS_irr] at this; cases this
      · exact z
    · rcases List.mem_cons.mp ((h k).mpr (List.mem_cons_of_mem _ hk)) with e | z
      · have := r1 k hk
        rw [e, ltS_irr] at this; cases this
      · exact z
theorem asc_of : ∀ {l : List Str}, sortedS l = true → l.Nodup → Asc l
  | [], _, _ => List.Pairwise.nil
  | [x], _, _ => List.pairwise_cons.mpr ⟨fun z hz => (by simp at hz), List.Pairwise.nil⟩
  | x :: y :: r, h, n => by
    have h : (!ltCps y.cps.toList x.cps.toList && risingS y r) = true := h
    simp only [Bool.and_eq_true, Bool.not_eq_true'] at h
    obtain ⟨n1, n2⟩ := List.nodup_cons.mp n
    have ih := asc_of (l := y :: r) h.2 n2
    have xy : ltS x y = true := ltS_tri h.1 fun z => n1 (by rw [← z]; exact List.mem_cons_self)
    exact List.pairwise_cons.mpr ⟨fun z hz => by
      rcases List.mem_cons.mp hz with e | hz
      · rw [e]; exact xy
      · exact ltS_trans xy ((List.pairwise_cons.mp ih).1 z hz), ih⟩
theorem srtU_uniq {l xs : List Str} (h : sortedS l = true) (n : l.Nodup) (hm : ∀ k, k ∈ l ↔ k ∈ xs) : l = srtU xs :=
  asc_uniq (asc_of h n) (asc_srtU xs) fun k => (hm k).trans mem_srtU.symm
def dSSet : D → M D
  | .lst l => match strsOf l with
    | some xs => if decide (xs.length < 63) then M.ret (.lst ((srtU xs).map D.str)) else M.stuck
    | none => M.stuck
  | _ => M.stuck
def dLSet : D → M D
  | .lst l => match strsOf l with
    | some xs => if decide (xs.length < 63) then M.ret (.int ((srtU xs).length : Int)) else M.stuck
    | none => M.stuck
  | _ => M.stuck
section
variable {X : Cx} {m : Am} {j : Nat} {a : Expr} {ea : EX} {p p2 q pos : Pos}
theorem setRS_len {P : Program} {w : World} {h : Heap} {b : Addr} {xs : List Str} {n : Nat} (R : SetRS P w h b (fun k => decide (k ∈ xs)) n) : n = (srtU xs).length := by
  obtain ⟨o, es, ep, t, ho, hex, hd, g, nd, hm, hb, hf, hn, hr, hl⟩ := R
  have n2 : (srtU xs).Nodup := (asc_srtU xs).imp fun h e => by rw [e, ltS_irr] at h; cases h
  have pm : (es.toList.map keyS).Perm (srtU xs) := (List.perm_ext_iff_of_nodup nd n2).mpr fun k => by
    rw [← hm k, mem_srtU]; simp
  rw [← pm.length_eq, List.length_map, Array.length_toList, hn]
theorem me_sset (B : Bx X m j) (hm : X.mg "sorted" = none) (hm2 : X.mg "set" = none) (hg : gloB X.env.scope "sorted" = true) (hg2 : gloB X.env.scope "set" = true) (ha : PE X a (tE m ea))
    (na : starEach [a] X.env = (false, eval a X.env) :: starEach [] X.env := by rfl) : PE X (.Call (.Name "sorted" p) [.Call (.Name "set" p2) [a] [] q] [] pos) (tE m (mUn dSSet ea)) := by
  refine ⟨fun pins s σ H Q I h => ?_⟩
  refine wpAny_Call_Name_kw (ld_blt (u := .builtin "sorted") I (gl_of hg) hm (by first | rfl | decide +kernel) ?_ (by decide) (by decide))
  refine PyProof.Rows.callWith_builtin1 (PyProof.Rows.args_cons ?_ rfl) rfl rfl
  refine Call_ (ld_blt I (gl_of hg2) hm2 PyProof.Rows.boot_set ?_)
  refine PyProof.Rows.callWith_type1 (PyProof.Rows.args_cons (thn (ha.run pins s σ H _ I (tY_bind (R1 := m.rE) r0_mono h)) fun v s1 ⟨x, H1, I1, r1, q1⟩ => PyProof.Rows.args_nil ?_) na) na rfl
  obtain ⟨G, pn, δ, ⟨_, d⟩, w, sl, ⟨_, r⟩, h3⟩ := q1
  have r : Rep m.S G m.pen x d := r
  cases r with
  | @lst l vs ds hl rr =>
    dsimp only [dSSet] at h3
    cases e : strsOf ds with
    | none => rw [e] at h3; exact h3.elim
    | some xs =>
      rw [e] at h3
      dsimp only at h3
      split at h3
      · rename_i h64
        have h64 : xs.length < 63 := of_decide_eq_true h64
        have := strs_repsO rr e
        subst this
        cases r1
        obtain ⟨its, rv, pl, hz⟩ := I1.list (.inl (.inl (w.sub _ _ hl)))
        refine call_set_listT xs (I1.ok.hd B.calm) pl.isList (by simpa using rv.strs) (by unfold scanBound; omega) fun h' tk c R hc hk => ?_
        refine PyProof.Rows.args_nil ?_
        have I2 : Inv X pins σ H1 { s1 with heap := h', toks := tk } := I1.kept fun b o e => hk b o e
        have hcl := setRS_len R
        refine sorted_setS R (I2.ok.hd B.calm) (by omega) fun s' pa out c ns k g o hp hg hi hs hn hm hl => ?_
        have en : ns = srtU xs := srtU_uniq hs hn fun k => by rw [hm k]; simp
        subst en
        have hlen : ((srtU xs).map V.str).length ≤ sizeLine := by rw [List.length_map, hl, sizeLine_eq]; omega
        have hfr : H1 pa = none := I2.hok.fresh hp
        have J := I2.call (h' := s'.heap) (g' := s'.gens) (d' := s'.drawn) (t' := s'.toks) (H' := upd H1 pa (.lst ((srtU xs).map V.str))) (ch := []) (Un.laid k hp hfr) (I2.hok.laid k hp ⟨hlen, out.toList, c, vals_of_strs hi, hg⟩) (by rw [g]; exact I2.bare) (fun _ z => nomatch z)
        have e : s' = { s1 with heap := s'.heap, gens := s'.gens, drawn := s'.drawn, toks := s'.toks } := by
          cases s'
          cases s1
          cases o
          rfl
        rw [e]
        exact ⟨.ref pa, _, J, rfl, fin_new w h3 (fun c hc => .lst upd_same (reps_strs _)) pa hfr⟩
      · exact h3.elim
  | _ => exact h3.elim
theorem me_lset (B : Bx X m j) (hm : X.mg "len" = none) (hm2 : X.mg "set" = none) (hg : gloB X.env.scope "len" = true) (hg2 : gloB X.env.scope "set" = true) (ha : PE X a (tE m ea))
    (na : starEach [a] X.env = (false, eval a X.env) :: starEach [] X.env := by rfl) : PE X (.Call (.Name "len" p) [.Call (.Name "set" p2) [a] [] q] [] pos) (tE m (mUn dLSet ea)) := by
  refine ⟨fun pins s σ H Q I h => ?_⟩
  refine Call_ (ld_blt I (gl_of hg) hm PySem.boot_len ?_)
  refine PyProof.Rows.callWith_builtin1 (PyProof.Rows.args_cons ?_ rfl) rfl rfl
  refine Call_ (ld_blt I (gl_of hg2) hm2 PyProof.Rows.boot_set ?_)
  refine PyProof.Rows.callWith_type1 (PyProof.Rows.args_cons (thn (ha.run pins s σ H _ I (tY_bind (R1 := m.rE) r0_mono h)) fun v s1 ⟨x, H1, I1, r1, q1⟩ => PyProof.Rows.args_nil ?_) na) na rfl
  obtain ⟨G, pn, δ, ⟨_, d⟩, w, sl, ⟨_, r⟩, h3⟩ := q1
  have r : Rep m.S G m.pen x d := r
  cases r with
  | @lst l vs ds hl rr =>
    dsimp only [dLSet] at h3
    cases e : strsOf ds with
    | none => rw [e] at h3; exact h3.elim
    | some xs =>
      rw [e] at h3
      dsimp only at h3
      split at h3
      · rename_i h64
        have h64 : xs.length < 63 := of_decide_eq_true h64
        have := strs_repsO rr e
        subst this
        cases r1
        obtain ⟨its, rv, pl, hz⟩ := I1.list (.inl (.inl (w.sub _ _ hl)))
        refine call_set_listT xs (I1.ok.hd B.calm) pl.isList (by simpa using rv.strs) (by unfold scanBound; omega) fun h' tk c R hc hk => ?_
        refine PyProof.Rows.args_nil ?_
        have I2 : Inv X pins σ H1 { s1 with heap := h', toks := tk } := I1.kept fun b o e => hk b o e
        have hcl := setRS_len R
        obtain ⟨o, es, ep, t, ho, hex, hd, g, nd, hm, hb, hf, hn, hr, hl⟩ := R
        refine call_len_set ho hex hd hf (by rw [hn]; omega) ⟨.int ((srtU xs).length : Int), H1, I2.tok _, ⟨_, by rw [hn, hcl]⟩, fin_same w (.int _) h3⟩
      · exact h3.elim
  | _ => exact h3.elim
end
end ME

/-! def f(a, *v); f(*x); C(..) by such an __init__; staticmethods. -/
namespace ME
open PySem PySem.Spec PyProof.Rows L2
/-- a def with a star parameter behind n others keeps the promise sp (the star's tuple laid) -/
def FnV (P : Program) (w : World) (K : PySem.W.Frag) (mg : Str → Option Value) (base : Heap) (k : Nat) (f : Addr) (n : Nat) (sp : Sp) : Prop :=
  ∀ (A : Around) (outer : List Env) (s : Shared) (H : Hp) (us : List Value) (vs : List V) (Q : VK) (E : XK), A.guards = some [] → Room k A → Env0 P w K mg base A outer s H → Vals vs us → n ≤ vs.length → vs.length ≤ sizeLine →
    (∀ p, H p = none → sp (vs.take n ++ [.ref p]) (upd H p (.tup (vs.drop n))) Q E) → codeAny (model P w) A (.call (.ref f) ⟨us, []⟩) (CR (L2.CX P w) outer P w H s Q E) s
theorem FnV.mono {P : Program} {w : World} {K : PySem.W.Frag} {mg : Str → Option Value} {base : Heap} {j k n : Nat} {f : Addr} {sp : Sp} (F : FnV P w K mg base j f n sp) (h : j ≤ k) : FnV P w K mg base k f n sp :=
  fun A outer s H us vs Q E hg hr => F A outer s H us vs Q E hg (hr.mono h)
def BdV (fd : FuncData) (ps : List Str) (pv : Str) : Prop := ∀ us rest : List Value, us.length = ps.length → bindArgs fd ⟨us ++ rest, []⟩ = (newTuple rest >>= fun t => pure (ps.zip us ++ [(pv, t)]))
theorem bdV {K : PySem.W.Frag} {x qual : Str} {st : Stmt} {f : Addr} {fd : FuncData} {ps : List Str} {pv : Str} (F : FunW K x qual st [] f fd)
    (hb : ∀ (kV doc pm : Value) (an : Option Addr) (cdv ct : Value), BdV (PySem.W.fnOf x qual (defArgs st) (defBody st) (defScope st) .none kV doc pm an cdv ct) ps pv) : BdV fd ps pv := by
  obtain ⟨oc, od, dV, kV, doc, pm, an, cdv, ct, osl, rfl, h2, h3, h4⟩ := F
  have e : dV = .none := by
    unfold dflB at h4
    cases dV <;> first | rfl | (simp at h4; done)
  subst e
  exact hb kV doc pm an cdv ct
theorem bind_star0 {B : List Value → Sem (List (Str × Value))} {pv : Str} (h0 : B [] = (newTuple [] >>= fun t => pure [(pv, t)])) (h1 : ∀ r rs, B (r :: rs) = (newTuple (r :: rs) >>= fun t => pure [(pv, t)])) :
    ∀ us rest : List Value, us.length = ([] : List Str).length → B (us ++ rest) = (newTuple rest >>= fun t => pure (([] : List Str).zip us ++ [(pv, t)]))
  | [], [], _ => h0
  | [], r :: rs, _ => h1 r rs
section
variable {P : Program} {w : World} {K : PySem.W.Frag} {mg : Str → Option Value} {base : Heap} {x qual : Str} {st : Stmt} {f : Addr} {fd : FuncData} {N ps : List Str} {pv : Str} {k : Nat} {sp : Sp}
theorem fn_okV (F : FunG K x qual st f fd) (Sc : FnScope N (ps ++ [pv]) (defScope st)) (hbd : BdV fd ps pv)
    (hb : ∀ (cdv : Value) (A : Around) (outer : List Env) (s : Shared) (H : Hp) (vs : List V) (Q : VK) (E : XK), fd.code = cdv → A.guards = some [] → Room k (A.deeper (PyProof.Rows.envOfC qual (defScope st) s.heap.objs.size f cdv)) → sp vs H Q E →
      ∃ t, PSs (cxOf (L2.CX P w) P w K mg base N qual (defScope st) f cdv A outer s H E) (defBody st) t ∧ t { nx := fun _ H' => Q .non H', rt := Q } (start N vs) H) :
    FnV P w K mg base (k + 1) f ps.length sp := by
  intro A outer s H us vs Q E hg hr e0 r hl hz hsp
  obtain ⟨oc, od, dV, kV, doc, pm, an, cdv, ct, osl, rfl, lk, hcd⟩ := F.ex
  have hn : H s.heap.objs.size = Option.none := e0.hok.fresh (Nat.le_refl _)
  have lu := r.length
  have es : vs = vs.take ps.length ++ vs.drop ps.length := (List.take_append_drop _ _).symm
  have r' := r
  rw [es] at r'
  obtain ⟨u1, u2, eu, r1, r2⟩ := StX.vals_split r'
  subst eu
  have hl1 : u1.length = ps.length := by rw [← r1.length, List.length_take]; omega
  have hz2 : (vs.drop ps.length).length ≤ sizeLine := by rw [List.length_drop]; omega
  have hl2 : u2.length ≤ sizeLine := by rw [← r2.length]; exact hz2
  refine StX.run_bnd lk hcd Sc hr e0 (G := fun xs H2 => ∃ p, H p = Option.none ∧ xs = vs.take ps.length ++ [V.ref p] ∧ H2 = upd H p (.tup (vs.drop ps.length))) (fun A' Ex Q' h => ?_) fun s2 H2 xs ⟨p, hp, ex, eH⟩ hr' => ?_
  · rw [hbd u1 u2 hl1]
    refine wpAny_bind (wpAny_newTuple (wpAny_pure ?_) hl2)
    have new : ObjOk P w (upd H s.heap.objs.size (.tup (vs.drop ps.length))) (s.heap.push ({ cls := .type "tuple", data := .seq u2.toArray } : Obj)) s.heap.objs.size (.tup (vs.drop ps.length)) := ⟨hz2, u2, r2, ⟨_, Heap.get?_push_size _ rfl, rfl, _, rfl⟩⟩
    have un := StX.un_laid (fs := frs outer) (s := s) (o := ({ cls := .type "tuple", data := .seq u2.toArray } : Obj)) (u := .tup (vs.drop ps.length)) hn
    have z := h _ _ (vs.take ps.length ++ [V.ref s.heap.objs.size]) (u1 ++ [Value.ref s.heap.objs.size]) (StX.env0_laid e0 new) un rfl (fun e s' => StX.cxUp outer s H _ _ E e s' un (fun b o q => Heap.get?_push_of_some _ q) rfl) (r1.append (.cons rfl .nil))
      (by rw [List.length_append, List.length_append, List.length_take, List.length_singleton, List.length_singleton]; omega) ⟨_, hn, rfl, rfl⟩
    rw [List.zip_append hl1.symm] at z
    exact z
  · subst ex eH
    exact hb cdv A outer s2 _ _ Q E rfl hg hr' (hsp p hp)
end
/-- THE RULE for a def with a star -/
theorem fn_okMV {P : Program} {w : World} {K : PySem.W.Frag} {mg : Str → Option Value} {base : Heap} {x qual : Str} {st : Stmt} {f : Addr} {fd : FuncData} {N ps : List Str} {pv : Str} {k : Nat} {S : Sg} {body : SX} (F : FunG K x qual st f fd) (Sc : FnScope N (ps ++ [pv]) (defScope st)) (hbd : BdV fd ps pv)
    (hb : ∀ (cdv : Value) (A : Around) (outer : List Env) (s : Shared) (pen : Addr) (G0 H : Hp) (E : XK), fd.code = cdv → A.guards = some [] → Room k (A.deeper (PyProof.Rows.envOfC qual (defScope st) s.heap.objs.size f cdv)) →
      PSs (cxOf (L2.CX P w) P w K mg base N qual (defScope st) f cdv A outer s H E) (defBody st) (tS ⟨S, pen, G0, H, fun c d _ H' => E c d H'⟩ body)) :
    FnV P w K mg base (k + 1) f ps.length (spM S (fnM (ps.length + 1) N.length body)) := by
  refine fn_okV F Sc hbd fun cdv A outer s H vs Q E hcv hg hr' sp => ?_
  obtain ⟨pen, G, p, ds, wd, rr, h⟩ := sp
  refine ⟨_, hb cdv A outer s pen G H E hcv hg hr', ?_⟩
  refine ⟨G, p, dsOf N.length ds, wd, Ex.refl, SlR.start rr, ?_⟩
  dsimp only [fnM] at h
  split at h
  · rcases he : body (dsOf N.length ds) p with _ | ⟨o, p1⟩
    · rw [he] at h; exact h
    · rw [he] at h
      cases o with
      | nx δ' => exact fun σ' G' H' _ w' x' sl' => h .non G' H' x' w' .non
      | rt d => exact fun v G' H' _ w' x' r' => h v G' H' x' w' r'
      | bk δ' => exact h.elim
      | ct δ' => exact h.elim
      | er c fs δ' => exact fun d σ' G' H' _ w' x' sl' r' => h d G' H' x' w' r'
  · exact h.elim
/-- .. for an __init__(self, *v) -/
theorem fn_okOV {P : Program} {w : World} {K : PySem.W.Frag} {mg : Str → Option Value} {base : Heap} {x qual : Str} {st : Stmt} {f : Addr} {fd : FuncData} {N : List Str} {pv : Str} {k c : Nat} {S : Sg} {body : SX} (F : FunG K x qual st f fd) (Sc : FnScope N ([("self" : Str)] ++ [pv]) (defScope st)) (hN : Nat.ble 2 N.length = true) (hbd : BdV fd ["self"] pv)
    (hb : ∀ (cdv : Value) (A : Around) (outer : List Env) (s : Shared) (pen : Addr) (G0 B H : Hp) (E : XK), A.guards = some [] → Room k (A.deeper (envOfC qual (defScope st) s.heap.objs.size f cdv)) →
      PSs (cxOf (L2.CX P w) P w K mg base N qual (defScope st) f cdv A outer s H E) (defBody st) (tS ⟨S, pen, G0, B, fun c d _ H' => E c d H'⟩ body)) :
    FnV P w K mg base (k + 1) f 1 (spO S c (inM c 1 N.length (S.nm c).length body)) := by
  have hN' := Nat.le_of_ble_eq_true hN
  refine fn_okV (ps := ["self"]) F Sc hbd fun cdv A outer s H vs Q E hcv hg hr h => ?_
  obtain ⟨pen, G, p, a, dx, ws, ds, rfl, ha, hga, hap, wd, r, h⟩ := h
  refine ⟨_, hb cdv A outer s pen G (mkH H a dx) H E hg hr, ?_⟩
  dsimp only [inM] at h
  split at h
  · rename_i hl
    have x0 : Ex pen G (mkH H a dx) G H := ⟨Sub.refl _, fun b o _ nt e => (mkH_some e nt).1, fun b e => none_mkH e (fun z => by rw [z, ha] at e; cases e), fun _ e _ => e⟩
    refine ⟨G, p, dsI c N.length ds, wd, x0, SlR.startO (x := x) r (show N.length = 1 + (ws.length + (N.length - 1 - ws.length)) by have := r.length; omega) ha hga hap mkH_same, ?_⟩
    rcases he : body (dsI c N.length ds) p with _ | ⟨o, p1⟩
    · rw [he] at h; exact h.elim
    · rw [he] at h
      cases o with
      | nx δ' =>
        intro σ' G' H' sb w' x' sl'
        dsimp only [inOf] at h
        split at h
        · rename_i c' xs e0
          split at h
          · rename_i hc
            obtain ⟨hc1, hc2⟩ := hc
            subst hc1
            obtain ⟨l, dx', vs, e1, e2, rv, hle, g1, g2, g3⟩ := sl'.mo 0 _ _ e0
            obtain ⟨rfl, rfl⟩ := mkH_mark g3
            refine h vs G' H' x' w' ?_ ?_ rv g1
            · rw [hc2, List.take_length] at e2; exact e2
            · rw [rv.length, hc2]
          · exact h.elim
        · exact h.elim
      | rt d => exact h.elim
      | bk δ' => exact h.elim
      | ct δ' => exact h.elim
      | er k fs δ' => exact fun d σ' G' H' _ w' x' sl' r' => h d G' H' x' w' r'
  · exact h.elim
/-! ### positional arguments of any number -/
structure PAS (X : Cx) (es : List Expr) (t : TA) : Prop where
  run : ∀ (pos : Pos) (f : Value) (first : List Value) (pins : List (Addr × Obj)) (s : Shared) (σ : L2.St) (H : Hp) (R : List V → Hp → Prop) (Q : Value → Shared → Prop), PySem.W.keepIn X.K f = true → Inv X pins σ H s → t σ H R →
    (∀ us s2 vs H2, Inv X pins σ H2 s2 → Vals vs us → R vs H2 → wpAny (model X.prog X.w) X.A (call f (first ++ us)) Q X.xe s2) →
    wpAny (model X.prog X.w) X.A (callWith pos f first (backTo pos (starEach es X.env)) (backToKw pos (keywordEach [] X.env))) Q X.xe s
def dItems : D → M (List D)
  | .tup l => M.ret l
  | .lst l => M.ret l
  | _ => M.stuck
def mStar (a : EX) : AX := fun δ => (a δ).bnd dItems
section
variable {X : Cx} {m : Am} {e : Expr} {es : List Expr} {ra : AX} {ea : EX} {sp_ : Pos}
theorem pas_pos (ha : PA X (e :: es) (tAs m ra)) (he : starEach (e :: es) X.env = (false, eval e X.env) :: starEach es X.env := by rfl) (hpl : ∀ pos, (backTo pos (starEach es X.env)).any (·.1) = false := by intro _; rfl) : PAS X (e :: es) (tAs m ra) := by
  refine ⟨fun pos f first pins s σ H R Q hk I h c => ?_⟩
  exact PySem.W.callWith_K (h₀ := X.base) I.ok.mod.kin hk (thn (ha.run pos pins s σ H _ I h) fun us s1 ⟨vs, H1, I1, r, q⟩ => ⟨I1.kIn, c us s1 vs H1 I1 r q⟩) he (hpl pos)
theorem pas_none : PAS X [] (tAs m mNil) := by
  refine ⟨fun pos f first pins s σ H R Q hk I h c => ?_⟩
  obtain ⟨G, p, δ, _, w, sl, _, h5⟩ := h
  have := c [] s [] H I .nil (h5 [] G H Ex.refl w .nil)
  exact PySem.W.callWith_K0 I.kIn hk this
theorem pas_star (he : PE X e (tE m ea)) (hK : X.K = m.S.K) (hst : starEach [.Starred e sp_] X.env = [(true, eval e X.env)] := by rfl) : PAS X [.Starred e sp_] (tAs m (mStar ea)) := by
  refine ⟨fun pos f first pins s σ H R Q hk I h c => ?_⟩
  refine PySem.W.callWith_S (h₀ := X.base) I.ok.mod.kin hk (thn (he.run pins s σ H _ I (tY_bind (R1 := m.rE) r0_mono h)) fun v s1 ⟨y, H1, I1, ry, q⟩ => ?_) hst
  obtain ⟨G, p, δ, ⟨_, d⟩, w, sl, ⟨_, r⟩, h3⟩ := q
  have r : Rep m.S G m.pen y d := r
  cases r with
  | @tup a vs ds ha rr =>
    cases (show v = Value.ref a from ry)
    exact StX.star_any I1 (.inl (by rw [hK]; exact w.sub.sqt ha)) fun us s2 I2 rv => ⟨I2.kIn, c us s2 vs H1 I2 rv (h3 vs G H1 Ex.refl w rr)⟩
  | @lst a vs ds ha rr =>
    cases (show v = Value.ref a from ry)
    exact StX.star_any I1 (.inr (.of (w.sub _ _ ha))) fun us s2 I2 rv => ⟨I2.kIn, c us s2 vs H1 I2 rv (h3 vs G H1 Ex.refl w rr)⟩
  | _ => exact h3.elim
end
/-! ### C(..), __init__(self, *v) -/
def mNewS (c : Nat) (f : List D → M (List D)) (a : AX) : EX := fun δ => (a δ).bnd fun x => if szOk (x.length + 1) then (f [.tup x]).bnd fun fs => M.ret (.obj c fs) else M.stuck
def NewV (P : Program) (w : World) (K : PySem.W.Frag) (mg : Str → Option Value) (base : Heap) (S : Sg) (k c : Nat) (x : Str) (f : List D → M (List D)) : Prop :=
  ∃ fI, Mk K (S.ca c) fI ∧ FnV P w K mg base k fI 1 (spO S c f) ∧ mg x = some (.ref (S.ca c))
theorem mkH_upd {H : Hp} {a dx p : Addr} {xs : List V} (h : p ≠ a) : mkH (upd H p (.tup xs)) a dx = upd (mkH H a dx) p (.tup xs) := by
  funext b
  by_cases hb : b = a
  · subst hb
    rw [mkH_same, upd_ne (Ne.symm h), mkH_same]
  · by_cases hp : b = p
    · subst hp
      unfold mkH
      rw [if_neg hb, upd_same, upd_same]
    · unfold mkH
      rw [if_neg hb, upd_ne hp, upd_ne hp, if_neg hb]
section
variable {X : Cx} {m : Am} {j k c : Nat} {es : List Expr} {ra : AX} {pos p : Pos} {x : Str}
theorem new_runV {mf : List D → M (List D)} {pins : List (Addr × Obj)} {s : Shared} {σ : L2.St} {H : Hp} {Q : VK} (B : Bx X m j) (T : NewV X.prog X.w X.K X.mg X.base m.S k c x mf) (hk : Nat.ble (k + 1) j = true) (ha : PAS X es (tAs m ra))
    (I : Inv X pins σ H s) (h : tE m (mNewS c mf ra) σ H Q) : wpAny (model X.prog X.w) X.A (callWith pos (.ref (m.S.ca c)) [] (backTo pos (starEach es X.env)) (backToKw pos (keywordEach [] X.env))) (EP X pins σ Q) X.xe s := by
  obtain ⟨fI, MK, F, hm⟩ := T
  refine ha.run pos (.ref (m.S.ca c)) [] pins s σ H _ _ MK.kp I (tY_bind (R1 := m.rA) r0_mono h) fun us s2 vs H2 I2 r q => ?_
  obtain ⟨G, p, δ, ⟨_, ds⟩, w, sl, ⟨_, r1⟩, h5⟩ := q
  have r1 : Reps m.S G m.pen vs ds := r1
  dsimp only at h5
  split at h5
  · rename_i hz
    have hz : ds.length + 1 ≤ 16777216 := of_decide_eq_true hz
    show wpAny _ _ (call (.ref (m.S.ca c)) us []) _ _ _
    have hr := B.hr.mono (Nat.le_of_ble_eq_true hk)
    have I3 := Inv.made (C := m.S.ca c) I2
    obtain ⟨a, ea⟩ : ∃ a, a = s2.heap.objs.size + 1 := ⟨_, rfl⟩
    obtain ⟨dx, ed⟩ : ∃ dx, dx = s2.heap.objs.size := ⟨_, rfl⟩
    have na : H2 a = none := by rw [ea]; exact I2.hok.fresh (Nat.le_succ _)
    have nd : H2 dx = none := by rw [ed]; exact I2.hok.fresh (Nat.le_refl _)
    have hne : dx ≠ a := by rw [ea, ed]; exact Nat.ne_of_lt (Nat.lt_succ_self _)
    rw [← ea, ← ed] at I3
    have nda : upd H2 dx (.own a) a = none := by rw [upd_ne (Ne.symm hne)]; exact na
    have w1 : Wd m.S m.pen G (upd H2 dx (.own a)) p := w.allocM nd
    have w2 : Wd m.S m.pen G (upd (upd H2 dx (.own a)) a (.ins (m.S.ca c) dx [])) p := w1.allocM nda
    have nap : a ≠ m.pen := w1.ne nda
    have sp : ∀ pt, upd (upd H2 dx (.own a)) a (.ins (m.S.ca c) dx []) pt = none → spO m.S c mf ((V.ref a :: vs).take 1 ++ [V.ref pt]) (upd (upd (upd H2 dx (.own a)) a (.ins (m.S.ca c) dx [])) pt (.tup ((V.ref a :: vs).drop 1))) (fun v H3 => v = .non ∧ Q (.ref a) H3) (WE m.W σ) := fun pt hpt => by
      show spO m.S c mf [V.ref a, V.ref pt] (upd (upd (upd H2 dx (.own a)) a (.ins (m.S.ca c) dx [])) pt (.tup vs)) _ _
      have hpa : pt ≠ a := fun z => by rw [z, upd_same] at hpt; cases hpt
      have gpt : G pt = none := w2.gfree hpt
      refine ⟨m.pen, upd G pt (.tup vs), p, a, dx, [.ref pt], [.tup ds], rfl, by rw [upd_ne (Ne.symm hpa), upd_same], by rw [upd_ne (Ne.symm hpa)]; exact w1.gfree nda, nap, w2.alloc hpt, .cons (.tup (.of upd_same) (r1.mono (Sub.alloc gpt))) .nil, ?_⟩
      dsimp only [M.bnd] at h5
      have x0 : Ex m.pen G (mkH (upd (upd H2 dx (.own a)) a (.ins (m.S.ca c) dx [])) a dx) (upd G pt (.tup vs)) (mkH (upd (upd (upd H2 dx (.own a)) a (.ins (m.S.ca c) dx [])) pt (.tup vs)) a dx) := by
        rw [mkH_upd hpa]
        exact Ex.alloc (none_mkH hpt hpa) gpt
      rcases he : mf [.tup ds] p with _ | ⟨o, p1⟩
      · rw [he] at h5; exact h5
      · rw [he] at h5
        have lift : ∀ {G' H' : Hp}, Ex m.pen G (mkH (upd (upd H2 dx (.own a)) a (.ins (m.S.ca c) dx [])) a dx) G' H' → (∀ b, b ≠ m.pen → b ≠ a → (∀ o, upd H2 dx (.own a) b = some o → (∀ x, o ≠ .tbl x) → H' b = some o)) ∧ (∀ b, H' b = none → H2 b = none) ∧ (∀ b, G b = none → H2 b ≠ none → G' b = none) := fun {G' H'} x' => by
          refine ⟨fun b hb hba o e nt => x'.keep b o hb nt (some_mkH (by rw [upd_ne hba]; exact e) nt hba), fun b e => ?_, fun b e n => x'.un b e fun z => ?_⟩
          · have z := mkH_none (x'.dom b e)
            rw [upd_ne z.2] at z
            by_cases q : b = dx
            · rw [q, upd_same] at z; cases z.1
            · rw [upd_ne q] at z; exact z.1
          · have z := mkH_none z
            rw [upd_ne z.2] at z
            by_cases q : b = dx
            · rw [q, upd_same] at z; cases z.1
            · rw [upd_ne q] at z; exact n z.1
        have full : ∀ {G' H' : Hp}, Ex m.pen G (mkH (upd (upd H2 dx (.own a)) a (.ins (m.S.ca c) dx [])) a dx) G' H' → Ex m.pen G H2 G' H' := fun {G' H'} x' => by
          obtain ⟨k1, k2, k3⟩ := lift x'
          refine ⟨x'.sub, fun b o hb nt e => ?_, k2, k3⟩
          have hba : b ≠ a := fun z => by rw [z, na] at e; cases e
          have hbd : b ≠ dx := fun z => by rw [z, nd] at e; cases e
          exact k1 b hb hba o (by rw [upd_ne hbd]; exact e) nt
        cases o with
        | ex k fs => exact fun d G' H' x' w' rx => h5 d G' H' (full (x0.trans x')) w' rx
        | ok fs =>
          intro vs' G' H' x' w' ha' hl' r' g'
          refine ⟨rfl, ?_⟩
          have fx := full (x0.trans x')
          refine h5 (.ref a) (upd G' a (.ins (m.S.ca c) dx ((m.S.nm c).zip vs'))) H' ⟨fx.sub.trans (Sub.alloc g'), fx.keep, fx.dom, fun b e n => ?_⟩ (w'.freeze ha' g' nap) (.obj upd_same hl' (r'.mono (Sub.alloc g')))
          have : b ≠ a := fun z => n (by rw [z]; exact na)
          rw [upd_ne this]; exact fx.un b e n
    have rv : Vals (V.ref a :: vs) (Value.ref a :: us) := .cons rfl r
    refine wpAny_call (make_map (f := fI) I2.kIn MK.makes MK.init (beq_iff_eq.mp MK.fn) ?_)
    rw [← ea, ← ed]
    refine codeAny_mono (F _ X.stack _ _ (Value.ref a :: us) (V.ref a :: vs) _ (WE m.W σ) (guards_make B.hq) (hr.make _ us []) (I3.env0.make _ us []) rv (by rw [List.length_cons]; omega) (by rw [List.length_cons, r1.length, sizeLine_eq]; exact hz) sp) fun r s' hq' => ?_
    cases r with
    | error e => exact passAt B.tk σ pins _ _ e s' I3 hq'
    | ok fl =>
      cases fl with
      | ret u =>
        obtain ⟨v, H', I4, rv', ev, q3⟩ := I3.after hq'
        subst ev
        exact ⟨rv', ⟨V.ref a, H', I4, rfl, q3⟩⟩
      | next => exact False.elim hq'
      | brk => exact False.elim hq'
      | cont => exact False.elim hq'
  · exact h5.elim
theorem me_newS {mf : List D → M (List D)} (B : Bx X m j) (T : NewV X.prog X.w X.K X.mg X.base m.S k c x mf) (hk : Nat.ble (k + 1) j = true) (hg : gloB X.env.scope x = true) (hx : nmB x = true) (ha : PAS X es (tAs m ra)) :
    PE X (.Call (.Name x p) es [] pos) (tE m (mNewS c mf ra)) := by
  refine ⟨fun pins s σ H Q I h => ?_⟩
  have hm : X.mg x = some (.ref (m.S.ca c)) := by
    obtain ⟨fI, MK, F, hm⟩ := T
    exact hm
  exact wpAny_Call_Name_kw (ld_glob I (gl_of hg) hm (new_runV B T hk ha I h) (nmB_of hx).1)
theorem me_newVS {mf : List D → M (List D)} {i : Nat} {y : Str} (B : Bx X m j) (T : NewV X.prog X.w X.K X.mg X.base m.S k c x mf) (hk : Nat.ble (k + 1) j = true) (hv : varB X.N X.env.scope i y = true) (ha : PAS X es (tAs m ra)) :
    PE X (.Call (.Name y p) es [] pos) (tE m (mNewV i c (mNewS c mf ra))) := by
  unfold varB at hv
  simp only [Bool.and_eq_true] at hv
  have q := nmB_of hv.2
  refine ⟨fun pins s σ H Q I h => ?_⟩
  obtain ⟨G, pn, δ, u, w, sl, _, h5⟩ := h
  dsimp only [mNewV] at h5
  split at h5
  · rename_i c' e
    split at h5
    · rename_i hc
      subst hc
      obtain ⟨v, e1, r⟩ := sl.val i _ e
      cases r
      refine wpAny_Call_Name_kw (thn ((pe_var (pos := p) (ixB_of hv.1.1) (visB_of hv.1.2) q.1 q.2.1).run pins s σ H (fun v H1 => v = .ref (m.S.ca c') ∧ H1 = H) I ⟨_, e1, rfl, rfl⟩) fun z s1 ⟨v, H1, I1, r1, q1, q2⟩ => ?_)
      subst q1 q2
      obtain rfl : z = Value.ref (m.S.ca c') := r1
      exact new_runV B T hk ha I1 ⟨G, pn, δ, (), w, sl, trivial, h5⟩
    · exact h5.elim
  · exact h5.elim
end
end ME

/-! C.m(..), m a staticmethod. -/
namespace ME
open PySem PySem.Spec PyProof.Rows L2
structure CSta (K : PySem.W.Frag) (C : Addr) (x : Str) (p f : Addr) : Prop where
  at_ : PySem.W.findCls K (.ref C) (.type "type") x = some (.get (.builtin "staticmethod.__get__") (.ref p) .none (.ref C))
  rc : ∃ rest, PySem.W.recIn K p "staticmethod" = some (.ref f :: rest)
  kp : PySem.W.keepIn K (.ref f) = true
/-- the staticmethod x of the class at C -/
def SmW (K : PySem.W.Frag) (C : Addr) (x qual : Str) (st : Stmt) (dd : List D) : Prop := ∃ p f fd, FunW K x qual st dd f fd ∧ ClX.CRead K C (.type "type") ∧ CSta K C x p f
theorem smW_mk {K : PySem.W.Frag} {C p f : Addr} {x qual : Str} {st : Stmt} {dd : List D} {rest : List Value} {oc dV kV doc pm cdv ct : Value} {od an : Option Addr} {osl : Array (Option Value)} (a : PySem.W.findCls K (.ref C) (.type "type") x = some (.get (.builtin "staticmethod.__get__") (.ref p) .none (.ref C)))
    (r : PySem.W.recIn K p "staticmethod" = some (.ref f :: rest)) (l : K.lookup f = some ⟨oc, od, .func (PySem.W.fnOf x qual (defArgs st) (defBody st) (defScope st) dV kV doc pm an cdv ct), osl⟩) (c : PySem.W.codeIn K cdv qual = true)
    (k : (PySem.W.readsIn K C (.type "type") && (PySem.W.specialIn K (.ref C) "__getattribute__" == some (some (.builtin "type.__getattribute__"))) && PySem.W.keepIn K (.ref f) && dflB K dV dd) = true) : SmW K C x qual st dd := by
  simp only [Bool.and_eq_true, beq_iff_eq] at k
  exact ⟨p, f, _, ⟨oc, od, dV, kV, doc, pm, an, cdv, ct, osl, rfl, l, c, k.2⟩, ⟨k.1.1.1, k.1.1.2⟩, ⟨a, ⟨rest, r⟩, k.1.2⟩⟩
def SfW (P : Program) (w : World) (K : PySem.W.Frag) (mg : Str → Option Value) (base : Heap) (S : Sg) (k c : Nat) (x qual : Str) (st : Stmt) (dd : List D) (ps : List Str) (mf : List D → M D) : Prop :=
  ∃ p f fd, FnG P w K mg base k f fd ps (spM S mf) ∧ FunW K x qual st dd f fd ∧ ClX.CRead K (S.ca c) (.type "type") ∧ CSta K (S.ca c) x p f
def StT (P : Program) (w : World) (K : PySem.W.Frag) (mg : Str → Option Value) (base : Heap) (S : Sg) (k c : Nat) (x : Str) (n : Nat) (ks : List Str) (dd : List D) (l : List Src) (mf : List D → M D) : Prop :=
  ∃ p f fd ps dvs, FnG P w K mg base k f fd ps (spM S mf) ∧ ClX.CRead K (S.ca c) (.type "type") ∧ CSta K (S.ca c) x p f ∧ Bd K fd ps n ks dvs l ∧ ∀ G pen, Reps S G pen dvs dd
theorem SfW.t {P : Program} {w : World} {K : PySem.W.Frag} {mg : Str → Option Value} {base : Heap} {S : Sg} {k c n : Nat} {x qual : Str} {st : Stmt} {dd dvs : List D} {ps ks : List Str} {l : List Src} {mf : List D → M D} (F : SfW P w K mg base S k c x qual st dd ps mf)
    (hb : ∀ f fd, FunW K x qual st dd f fd → Bd K fd ps n ks (dvs.map dvV) l) (hd : dvs.all dvFlat = true) : StT P w K mg base S k c x n ks dvs l mf := by
  obtain ⟨p, f, fd, h1, h2, h3, h4⟩ := F
  exact ⟨p, f, fd, ps, dvs.map dvV, h1, h3, h4, hb f fd h2, fun _ _ => dv_reps hd⟩
/-- .. with a star alone -/
def StV (P : Program) (w : World) (K : PySem.W.Frag) (mg : Str → Option Value) (base : Heap) (S : Sg) (k c : Nat) (x : Str) (mf : List D → M D) : Prop :=
  ∃ p f, FnV P w K mg base k f 0 (spM S mf) ∧ ClX.CRead K (S.ca c) (.type "type") ∧ CSta K (S.ca c) x p f
def mCallS (f : List D → M D) (a : AX) : EX := fun δ => (a δ).bnd fun x => if szOk x.length then f [.tup x] else M.stuck
section
variable {X : Cx} {m : Am} {j k n c : Nat} {es : List Expr} {kws : List Keyword} {ks : List Str} {ra rk : AX} {pos apos p : Pos} {x y : Str} {dd : List D} {l : List Src} {mf : List D → M D} {pl : Sem Bool}
theorem sta_get {pins : List (Addr × Obj)} {s : Shared} {σ : L2.St} {H : Hp} {C pr f : Addr} {Q : Value × List Value → Shared → Prop} {E : Value → Shared → Prop} (I : Inv X pins σ H s) (hR : ClX.CRead X.K C (.type "type")) (hS : CSta X.K C x pr f) (h : ∀ s', Inv X pins σ H s' → Q (.ref f, []) s') :
    wpAny (model X.prog X.w) X.A (getMethod (.ref C) x pl) Q E s := by
  obtain ⟨rest, hp⟩ := hS.rc
  refine PySem.W.method_cls I.kIn hR.ga (PySem.W.cls_bind I.kIn hR.rd hS.at_ ?_)
  exact wpAny_call (PySem.W.sm_get (s := { s with toks := s.toks + 1 }) I.kIn hp (PySem.W.handed_on rfl (h _ (I.tok _))))
theorem me_stm (B : Bx X m j) (T : StT X.prog X.w X.K X.mg X.base m.S k c x n ks dd l mf) (hk : Nat.ble k j = true) (hm : X.mg y = some (.ref (m.S.ca c))) (hg : gloB X.env.scope y = true) (hy : nmB y = true) (ha : PAK X es kws n ks (tAK m n ks.length ra rk))
    (ht : eval (.Call (.Attribute (.Name y p) x apos) es kws pos) X.env = (do
      let ov ← eval (.Name y p) X.env
      standAt apos.atName
      let (f, first) ← holding [ov] (getMethod ov x pl)
      callWith pos f first (backTo pos (starEach es X.env)) (backToKw pos (keywordEach kws X.env))) := by rfl) :
    PE X (.Call (.Attribute (.Name y p) x apos) es kws pos) (tE m (mCallK mf n ks.length dd l ra rk)) := by
  obtain ⟨pr, f, fd, ps, dvs, F, hR, hS, hb, hdd⟩ := T
  have F := F.mono (Nat.le_of_ble_eq_true hk)
  refine ⟨fun pins s σ H Q I h => ?_⟩
  refine PySem.W.methodCall_KW (pl := pl) (ld_glob I (gl_of hg) hm ?_ (nmB_of hy).1) ht
  refine sta_get I hR hS fun s1 I1 => ?_
  refine ha.run pos (.ref f) [] pins s1 σ H _ _ hS.kp I1 (tAK_of h) fun us ws s2 vs zs H2 I2 r rz l1 l2 ⟨G, p, δ, ds, es, w, sl, r1, r2, h5⟩ => ?_
  obtain ⟨its, vd, bd⟩ := hb.ex
  have sp : spM m.S mf (pick vs dvs zs l) H2 Q (WE m.W σ) := ⟨m.pen, G, p, pick ds dd es l, w, reps_pick r1 (hdd G m.pen) r2 l, h5⟩
  refine wpAny_call (codeAny_mono (F.run X.A X.stack s2 H2 ⟨us, ks.zip ws⟩ (pick us its ws l) (pick vs dvs zs l) Q (WE m.W σ) B.hq B.hr I2.env0 (bd s2 us ws I2.kIn l1 l2) (vals_pick r vd rz l) sp) fun r s' hq => ?_)
  cases r with
  | error e => exact passAt B.tk σ pins H2 s2 e s' I2 hq
  | ok fl =>
    cases fl with
    | ret u => exact I2.after hq
    | next => exact False.elim hq
    | brk => exact False.elim hq
    | cont => exact False.elim hq
theorem me_stS (B : Bx X m j) (T : StV X.prog X.w X.K X.mg X.base m.S k c x mf) (hk : Nat.ble k j = true) (hm : X.mg y = some (.ref (m.S.ca c))) (hg : gloB X.env.scope y = true) (hy : nmB y = true) (ha : PAS X es (tAs m ra))
    (ht : eval (.Call (.Attribute (.Name y p) x apos) es [] pos) X.env = (do
      let ov ← eval (.Name y p) X.env
      standAt apos.atName
      let (f, first) ← holding [ov] (getMethod ov x pl)
      callWith pos f first (backTo pos (starEach es X.env)) (backToKw pos (keywordEach [] X.env))) := by rfl) :
    PE X (.Call (.Attribute (.Name y p) x apos) es [] pos) (tE m (mCallS mf ra)) := by
  obtain ⟨pr, f, F, hR, hS⟩ := T
  have F := F.mono (Nat.le_of_ble_eq_true hk)
  refine ⟨fun pins s σ H Q I h => ?_⟩
  refine PySem.W.methodCall_KW (pl := pl) (ld_glob I (gl_of hg) hm ?_ (nmB_of hy).1) ht
  refine sta_get I hR hS fun s1 I1 => ?_
  refine ha.run pos (.ref f) [] pins s1 σ H _ _ hS.kp I1 (tY_bind (R1 := m.rA) r0_mono h) fun us s2 vs H2 I2 r q => ?_
  obtain ⟨G, p, δ, ⟨_, ds⟩, w, sl, ⟨_, r1⟩, h5⟩ := q
  have r1 : Reps m.S G m.pen vs ds := r1
  dsimp only at h5
  split at h5
  · rename_i hz
    have hz : ds.length ≤ 16777216 := of_decide_eq_true hz
    refine wpAny_call (codeAny_mono (F X.A X.stack s2 H2 us vs Q (WE m.W σ) B.hq B.hr I2.env0 r (Nat.zero_le _) (by rw [r1.length, sizeLine_eq]; exact hz) fun pt hpt => ?_) fun r s' hq => ?_)
    · show spM m.S mf [V.ref pt] (upd H2 pt (.tup vs)) Q (WE m.W σ)
      exact ⟨m.pen, upd G pt (.tup vs), p, [.tup ds], w.alloc hpt, .cons (.tup (.of upd_same) (r1.mono (Sub.alloc (w.gfree hpt)))) .nil, Post.ex (Ex.alloc hpt (w.gfree hpt)) h5⟩
    · cases r with
      | error e => exact passAt B.tk σ pins H2 s2 e s' I2 hq
      | ok fl =>
        cases fl with
        | ret u => exact I2.after hq
        | next => exact False.elim hq
        | brk => exact False.elim hq
        | cont => exact False.elim hq
  · exact h5.elim
end
end ME

/-! enumerate(list), zip of two lists or two tuples. -/
namespace ME
open PySem PySem.Spec PyProof.Rows L2
def enumD : Nat → List D → List D
  | _, [] => []
  | i, d :: r => .tup [.int (i : Int), d] :: enumD (i + 1) r
def zipD : List D → List D → List D
  | a :: r, b :: t => .tup [a, b] :: zipD r t
  | _, _ => []
theorem enumD_get : ∀ {l : List D} {k i : Nat} {x : D}, (enumD k l)[i]? = some x → ∃ d, l[i]? = some d ∧ x = .tup [.int ((k + i : Nat) : Int), d]
  | [], k, i, x, h => by simp [enumD] at h
  | d :: r, k, 0, x, h => by
    have h : (enumD k (d :: r))[0]? = some x := h
    simp only [enumD, List.getElem?_cons_zero, Option.some.injEq] at h
    exact ⟨d, rfl, h.symm⟩
  | d :: r, k, i + 1, x, h => by
    have h : (enumD k (d :: r))[i + 1]? = some x := h
    simp only [enumD, List.getElem?_cons_succ] at h
    obtain ⟨e, h1, h2⟩ := enumD_get h
    exact ⟨e, by simpa using h1, by rw [h2, Nat.add_right_comm]; rfl⟩
theorem enumD_len : ∀ (l : List D) (k : Nat), (enumD k l).length = l.length
  | [], _ => rfl
  | d :: r, k => by simp [enumD, enumD_len r]
theorem zipD_get : ∀ {l r : List D} {i : Nat} {x : D}, (zipD l r)[i]? = some x → ∃ a b, l[i]? = some a ∧ r[i]? = some b ∧ x = .tup [a, b]
  | [], r, i, x, h => by simp [zipD] at h
  | a :: l, [], i, x, h => by simp [zipD] at h
  | a :: l, b :: r, 0, x, h => by
    simp only [zipD, List.getElem?_cons_zero, Option.some.injEq] at h
    exact ⟨a, b, rfl, rfl, h.symm⟩
  | a :: l, b :: r, i + 1, x, h => by
    simp only [zipD, List.getElem?_cons_succ] at h
    obtain ⟨a', b', h1, h2, h3⟩ := zipD_get h
    exact ⟨a', b', by simpa using h1, by simpa using h2, h3⟩
theorem zipD_len : ∀ (l r : List D), (zipD l r).length = min l.length r.length
  | [], _ => by simp [zipD]
  | a :: l, [] => by simp [zipD]
  | a :: l, b :: r => by simp [zipD, zipD_len l r]
def iEnu (e : AX) : DS → M (List D) := fun δ => (e δ).bnd fun d => match d with
  | [.lst l] => M.ret (enumD 0 l)
  | _ => M.stuck
def iZip (e : AX) : DS → M (List D) := fun δ => (e δ).bnd fun d => match d with
  | [.lst l, .lst r] => M.ret (zipD l r)
  | [.tup l, .tup r] => M.ret (zipD l r)
  | _ => M.stuck
section
variable {X : Cx} {m : Am} {e e2 : Expr} {ra : AX} {p pos tpos : Pos} {elts : List Expr} {kk : Nat}
theorem pair_new {G H : Hp} {pn : Pn} {T : Addr} {x y : V} {a b : D} (w : Wd m.S m.pen G H pn) (hT : H T = none) (rx : Rep m.S G m.pen x a) (ry : Rep m.S G m.pen y b) :
    ∃ G'', Ex m.pen G H G'' (upd H T (.tup [x, y])) ∧ Wd m.S m.pen G'' (upd H T (.tup [x, y])) pn ∧ Rep m.S G'' m.pen (.ref T) (.tup [a, b]) :=
  ⟨upd G T (.tup [x, y]), Ex.alloc hT (w.gfree hT), w.alloc hT, .tup (.of upd_same) (.cons (rx.mono (Sub.alloc (w.gfree hT))) (.cons (ry.mono (Sub.alloc (w.gfree hT))) .nil))⟩
theorem mi_enu (hK : X.K = m.S.K) (hm : X.mg "enumerate" = none) (hg : gloB X.env.scope "enumerate" = true) (ha : PA X [e] (tAs m ra)) (hs : starEach [e] X.env = [(false, eval e X.env)] := by rfl) :
    PI X (.Tuple elts kk tpos) (.Call (.Name "enumerate" p) [e] [] pos) (tI m (iEnu ra)) := by
  refine PI.imp (pi_enum (gl_of hg) hm ha hs) fun σ H R h => ?_
  refine (tY_bind (R1 := m.rA) r0_mono h).imp fun xs H1 h2 => ?_
  obtain ⟨G, pn, δ, ⟨_, ds⟩, w, sl, ⟨_, r⟩, h5⟩ := h2
  have r : Reps m.S G m.pen xs ds := r
  rw [hK]
  dsimp only at h5
  split at h5
  · cases r with
    | cons r1 r2 =>
      cases r2
      cases r1 with
      | @lst a vs l hl rr =>
        refine ⟨a, vs, rfl, .of (w.sub _ _ hl), h5 _ G H1 Ex.refl w ?_⟩
        intro G' H' p' s' w'
        have hl' : SqL m.S.K H' a vs := .of (w'.sub _ _ (s' _ _ hl))
        refine ⟨fun i d e => ?_, fun i hi => ⟨vs, hl', by rw [rr.length]; rw [enumD_len] at hi; exact hi⟩⟩
        obtain ⟨d', e1, rfl⟩ := enumD_get e
        obtain ⟨v, ev, rv⟩ := rr.get e1
        refine ⟨⟨vs, v, hl', ev⟩, fun y H2 ⟨T, x, e2, hT, eH, q⟩ => ?_⟩
        subst e2 eH
        have : some v = some x := ev.symm.trans (q vs hl')
        cases this
        rw [Nat.zero_add]
        exact pair_new w' hT (.int _) (rv.mono s')
  · exact h5.elim
theorem mi_zip (hK : X.K = m.S.K) (hm : X.mg "zip" = none) (hg : gloB X.env.scope "zip" = true) (ha : PA X [e, e2] (tAs m ra)) (hs : starEach [e, e2] X.env = (false, eval e X.env) :: starEach [e2] X.env := by rfl) (hpl : (backTo pos (starEach [e2] X.env)).any (·.1) = false := by rfl) :
    PI X (.Tuple elts kk tpos) (.Call (.Name "zip" p) [e, e2] [] pos) (tI m (iZip ra)) := by
  refine PI.imp (RZ.pi_zipA (gl_of hg) hm ha hs hpl) fun σ H R h => ?_
  refine (tY_bind (R1 := m.rA) r0_mono h).imp fun xs H1 h2 => ?_
  obtain ⟨G, pn, δ, ⟨_, ds⟩, w, sl, ⟨_, r⟩, h5⟩ := h2
  have r : Reps m.S G m.pen xs ds := r
  rw [hK]
  dsimp only at h5
  split at h5
  · cases r with
    | cons r1 r2 =>
      cases r2 with
      | cons r2 r3 =>
        cases r3
        cases r1 with
        | @lst a vs l hl rr =>
          cases r2 with
          | @lst b us l2 hl2 rr2 =>
            refine ⟨a, b, vs, us, rfl, .inl ⟨.of (w.sub _ _ hl), .of (w.sub _ _ hl2), h5 _ G H1 Ex.refl w ?_⟩⟩
            intro G' H' p' s' w'
            have k1 : SqL m.S.K H' a vs := .of (w'.sub _ _ (s' _ _ hl))
            have k2 : SqL m.S.K H' b us := .of (w'.sub _ _ (s' _ _ hl2))
            refine ⟨fun i d e => ?_, fun i hi => ⟨vs, us, k1, k2, by rw [rr.length, rr2.length]; rw [zipD_len] at hi; omega⟩⟩
            obtain ⟨d1, d2, e1, e2, rfl⟩ := zipD_get e
            obtain ⟨v, ev, rv⟩ := rr.get e1
            obtain ⟨u, eu, ru⟩ := rr2.get e2
            refine ⟨⟨vs, us, v, u, k1, k2, ev, eu⟩, fun y H2 ⟨T, x, z, e2, hT, eH, q, q2⟩ => ?_⟩
            subst e2 eH
            have : some v = some x := ev.symm.trans (q vs k1)
            cases this
            have : some u = some z := eu.symm.trans (q2 us k2)
            cases this
            exact pair_new w' hT (rv.mono s') (ru.mono s')
  · cases r with
    | cons r1 r2 =>
      cases r2 with
      | cons r2 r3 =>
        cases r3
        cases r1 with
        | @tup a vs l hl rr =>
          cases r2 with
          | @tup b us l2 hl2 rr2 =>
            refine ⟨a, b, vs, us, rfl, .inr ⟨w.sub.sqt hl, w.sub.sqt hl2, h5 _ G H1 Ex.refl w ?_⟩⟩
            intro G' H' p' s' w'
            have k1 : SqT m.S.K H' a vs := w'.sub.sqt (s'.sqt hl)
            have k2 : SqT m.S.K H' b us := w'.sub.sqt (s'.sqt hl2)
            refine ⟨fun i d e => ?_, fun i hi => ⟨vs, us, k1, k2, by rw [rr.length, rr2.length]; rw [zipD_len] at hi; omega⟩⟩
            obtain ⟨d1, d2, e1, e2, rfl⟩ := zipD_get e
            obtain ⟨v, ev, rv⟩ := rr.get e1
            obtain ⟨u, eu, ru⟩ := rr2.get e2
            refine ⟨⟨vs, us, v, u, k1, k2, ev, eu⟩, fun y H2 ⟨T, x, z, e2, hT, eH, q, q2⟩ => ?_⟩
            subst e2 eH
            have : some v = some x := ev.symm.trans (q vs k1)
            cases this
            have : some u = some z := eu.symm.trans (q2 us k2)
            cases this
            exact pair_new w' hT (rv.mono s') (ru.mono s')
  · exact h5.elim
end
end ME

/-! for x in o, o an instance whose __iter__ says: return iter(self.f), f a tuple. -/
namespace ME
open PySem PySem.Spec PyProof.Rows L2
def itObjT (t : Addr) : Obj := { cls := .type "tuple_iterator", data := .fields #[.ref t, .int 0 0] }
def ItT (t it : Addr) : HO := .ext fun h => h.get? it = some (itObjT t)
theorem itT_ok {P : Program} {w : World} {H : Hp} {h : Heap} {t it : Addr} (e : h.get? it = some (itObjT t)) : ObjOk P w H h it (ItT t it) := ⟨e, ⟨_, e⟩, fun h1 h2 q k => k _ q⟩
theorem itT_get {X : Cx} {pins : List (Addr × Obj)} {σ : L2.St} {H : Hp} {s : Shared} {t it : Addr} (I : Inv X pins σ H s) (e : H it = some (ItT t it)) : s.heap.get? it = some (itObjT t) := (I.hok it _ e).1
/-- iter(t), t a tuple -/
def rIterT (K : PySem.W.Frag) (n : Nat) : List V → Hp → VK → Prop := fun xs H Q => ∃ (l : Addr) (zs : List V), xs = [.ref l] ∧ SqT K H l zs ∧ ∀ it, H it = none → n ≤ it → Q (.ref it) (upd H it (ItT l it))
theorem call_iterT {X : Cx} : CallR X (.builtin "iter") (rIterT X.K X.s_0.heap.objs.size) := by
  intro pins s σ H xs us Q I r h
  obtain ⟨l, zs, rfl, hq, q⟩ := h
  obtain ⟨u, rfl, ru⟩ := Vals.one r
  cases ru
  obtain ⟨its, rv, pl, hz⟩ := I.tuple hq
  refine Calls.call_function_entry (by decide +kernel) (by decide +kernel) PySem.W.kdk_entry_iter (PySem.W.kdk_args_iter _) ?_
  unfold Builtin.«iter»
  refine wpAny_bind (m := someArgs "iter" 1 2 _) (wpAny_of_eq (a := [Value.ref l]) (by first | rfl | kernel_rfl!) ?_)
  show wpAny _ _ (pyIter (.ref l) >>= _) _ _ _
  refine wpAny_bind (wpAny_pyIter_tuple (show s.heap.IsTuple l its.toArray from pl) ?_)
  refine wpAny_pure ⟨_, rfl, ?_⟩
  exact ⟨.ref s.heap.objs.size, _, I.laid (t' := s.toks) (fun b u e => Heap.get?_push_of_some _ e) (Nat.le_refl _) (itT_ok (Heap.get?_push_size _ rfl)), rfl, q _ (I.hok.fresh (Nat.le_refl _)) I.sz⟩
/-- such an __iter__ of the class number c, the tuple its field number kf -/
def FnI (P : Program) (w : World) (K : PySem.W.Frag) (mg : Str → Option Value) (base : Heap) (S : Sg) (k : Nat) (f : Addr) (c kf : Nat) : Prop :=
  ∀ (A : Around) (outer : List Env) (s : Shared) (H : Hp) (a dx t : Addr) (us ts : List V), Room k A → Env0 P w K mg base A outer s H → H a = some (.ins (S.ca c) dx ((S.nm c).zip us)) → us.length = (S.nm c).length → us[kf]? = some (.ref t) → SqT K H t ts →
    codeAny (model P w) A (.call (.ref f) ⟨[.ref a], []⟩) (CR (L2.CX P w) outer P w H s (fun v H' => ∃ it, v = .ref it ∧ s.heap.objs.size ≤ it ∧ H it = none ∧ H' = upd H it (ItT t it)) (fun _ _ _ => False)) s
def itB (K : PySem.W.Frag) (S : Sg) (c kf : Nat) (fld : Str) : Bool := clsB K (S.ca c) && (PySem.W.findIn K (.ref (S.ca c)) fld == some none) && ((S.nm c)[kf]? == some fld) && nodB (S.nm c)
section
variable {P : Program} {w : World} {K : PySem.W.Frag} {mg : Str → Option Value} {base : Heap} {S : Sg} {x qual fld : Str} {st : Stmt} {f : Addr} {fd : FuncData} {c kf : Nat} {p1 p2 p3 p4 p5 : Pos}
theorem fn_iter (F : FunW K x qual st [] f fd) (Sc : FnScope ["self"] ["self"] (defScope st)) (hb : defBody st = [.Return (some (.Call (.Name "iter" p1) [.Attribute (.Name "self" p2) fld p3] [] p4)) p5])
    (hi : itB K S c kf fld = true) (hm : mg "iter" = none) (hg : gloB (defScope st) "iter" = true)
    (hbd : ∀ (s : Shared) (kV doc pm : Value) (an : Option Addr) (cdv ct : Value) (u : Value), BindsTo s (PySem.W.fnOf x qual (defArgs st) (defBody st) (defScope st) .none kV doc pm an cdv ct) ⟨[u], []⟩ ([("self" : Str)].zip [u])) : FnI P w K mg base S 1 f c kf := by
  intro A outer s H a dx t us ts hr e0 ha hl ht hq
  unfold itB at hi
  simp only [Bool.and_eq_true, beq_iff_eq] at hi
  obtain ⟨⟨⟨f1, f2⟩, f3⟩, f4⟩ := hi
  obtain ⟨oc, od, dV, kV, doc, pm, an, cdv, ct, osl, rfl, lk, hcd, h4⟩ := F
  have e : dV = .none := by
    unfold dflB at h4
    cases dV <;> first | rfl | (simp at h4; done)
  subst e
  refine LamX.run_ofS (k := 0) (ps := ["self"]) (us := [.ref a]) (vs := [.ref a]) lk hcd Sc hr e0 (hbd s kV doc pm an cdv ct _) (.cons rfl .nil) rfl fun hr' => ?_
  rw [hb]
  refine ⟨_, pss_one (ps_ret (pe_callB (call_iterT) (gloB_of hg) hm (by first | rfl | decide +kernel) (pa_cons (pe_at at_fld (pe_var (i := 0) rfl (vis_of Sc (by simp))) rfl) pa_nil))), ?_⟩
  exact ⟨.ref a, rfl, a, _, dx, _, .ref t, rfl, ha, clsB_of f1, f2, zip_lookup (nodB_of f4) f3 ht, t, ts, rfl, hq, fun it h1 h2 => ⟨it, rfl, h2, h1, rfl⟩⟩
end
def IterT (P : Program) (w : World) (K : PySem.W.Frag) (mg : Str → Option Value) (base : Heap) (S : Sg) (k c kf : Nat) : Prop :=
  ∃ fi, FnI P w K mg base S k fi c kf ∧ PySem.W.findIn K (.ref (S.ca c)) "__iter__" = some (some (.ref fi)) ∧ PySem.W.isFn K (.ref fi) = true
def iOwn (tbl : List (Nat × Nat)) (e : EX) : DS → M (List D) := fun δ => (e δ).bnd fun d => match d with
  | .obj c fs => match tbl.lookup c with
    | some kf => match fs[kf]? with
      | some (.tup l) => M.ret l
      | _ => M.stuck
    | none => M.stuck
  | _ => M.stuck
section
variable {X : Cx} {m : Am} {j k : Nat} {tg e : Expr} {ea : EX}
theorem mi_own {tbl : List (Nat × Nat)} (B : Bx X m j) (T : ∀ c kf, tbl.lookup c = some kf → IterT X.prog X.w X.K X.mg X.base m.S k c kf) (hk : Nat.ble k j = true) (h : PE X e (tE m ea)) : PI X tg e (tI m (iOwn tbl ea)) := by
  refine ⟨fun pins s σ H R I h0 => ?_⟩
  refine thn (h.run pins s σ H _ I (tY_bind (R1 := m.rE) r0_mono h0)) fun u s1 ⟨x, H1, I1, rx, q1⟩ => ?_
  obtain ⟨G, p, δ, ⟨_, d⟩, w, sl, ⟨_, r⟩, h5⟩ := q1
  have r : Rep m.S G m.pen x d := r
  cases r with
  | @obj a dx c vs ds ha hl rr =>
    dsimp only at h5
    cases el : tbl.lookup c with
    | none => rw [el] at h5; exact h5.elim
    | some kf =>
      rw [el] at h5
      dsimp only at h5
      cases ek : ds[kf]? with
      | none => rw [ek] at h5; exact h5.elim
      | some dk =>
        rw [ek] at h5
        cases (show u = Value.ref a from rx)
        obtain ⟨v, ev, rv⟩ := rr.get ek
        cases rv with
        | @tup t ts l ht rt =>
          obtain ⟨fi, F, hit, hfn⟩ := T c kf el
          obtain ⟨mA, O, _⟩ := ins_get I1.hok (w.sub _ _ ha)
          obtain ⟨od, J, _⟩ := O.look
          obtain ⟨m0, hF⟩ := I1.fr
          have hqt : SqT X.K H1 t ts := by rw [B.hK]; exact w.sub.sqt ht
          refine PySem.W.owit_iter hF I1.ok.mod.kin J hit hfn ?_
          refine wpAny_call (codeAny_mono (F X.A X.stack s1 H1 a dx t vs ts (B.hr.mono (Nat.le_of_ble_eq_true hk)) I1.env0 (w.sub _ _ ha) hl ev hqt) fun r s' hq' => ?_)
          cases r with
          | error er =>
            obtain ⟨_, _, _, _, _, _, _, _, _, _, _, _, z⟩ := hq'
            exact z.elim
          | ok fl =>
            cases fl with
            | next => exact False.elim hq'
            | brk => exact False.elim hq'
            | cont => exact False.elim hq'
            | ret uu =>
              obtain ⟨v, H', I2, rv, it, e1, e2, e3, e4⟩ := I1.after hq'
              subst e1 e4
              cases (show uu = Value.ref it from rv)
              have eo := itT_get I2 upd_same
              refine wpAny_specialOf (T := "tuple_iterator") ⟨_, eo, rfl⟩ PyProof.Rows.slot_tupleiter_next.lookup ?_
              have hdr : ItX.dropH (upd H1 it (ItT t it)) it = H1 := ItX.dropH_upd e3
              have I3 := ItX.inv_drop I2 (a := it) (φ := fun h => h.get? it = some (itObjT t)) upd_same
              rw [hdr] at I3
              have fp := ItX.inv_fp I2 (a := it) upd_same (Nat.le_trans I1.sz e2)
              rw [hdr] at fp
              refine ⟨it, [it], _, _, H1, rfl, I3, turn_tuple t it, ⟨_, eo, rfl, rfl⟩, fun b hb => ?_, ?_⟩
              · have e : b = it := by simpa using hb
                rw [e]; exact fp
              · refine h5 _ G H1 Ex.refl w ?_
                rw [B.hK]
                intro G' H' p' s' w'
                have hl : SqT m.S.K H' t ts := w'.sub.sqt (s'.sqt ht)
                refine ⟨fun i d e => ?_, fun i hi => ⟨ts, hl, by rw [rt.length]; exact hi⟩⟩
                obtain ⟨v, ev, rv⟩ := rt.get e
                refine ⟨⟨ts, v, hl, ev⟩, fun y H2 ⟨e2, q⟩ => ?_⟩
                subst e2
                have : some v = some y := ev.symm.trans (q ts hl)
                cases this
                exact ⟨G', Ex.refl, w', rv.mono s'⟩
        | _ => exact h5.elim
  | _ => exact h5.elim
end
end ME

/-! [e for ..] whose clause or element may raise: the exception leaves the block and goes on in the def. -/
namespace ME
open PySem PySem.Spec PyProof.Rows L2
theorem note_frame {x : Value} {e1 e2 : Env} (h : e1.frame = e2.frame) : noteFrame x e1 = noteFrame x e2 := by
  unfold noteFrame PySem.frameOf
  rw [h]
theorem pass_frame {α : Type} {t : String} {x : Value} {e1 e2 : Env} (h : e1.frame = e2.frame) : (PySem.passOn t x e1 : Sem α) = PySem.passOn t x e2 := by
  unfold PySem.passOn
  rw [h]
section
variable {M : Model} {A : Around} {E : Value → Shared → Prop} {s : Shared} {B : Heap} {env : Env} {outer : List Env} {L C a : Addr} {Z : Obj → Prop}
theorem held_note {Q : Unit → Shared → Prop} (hZ : HandSPX.Steady Z) (hfr : A.frames = some (env :: outer)) (hf : env.frame = some L) (hne : C ≠ L) (hfl : HandSPX.HeldZ B (env :: outer) a Z C s.heap)
    (hQ : ∀ h', HandSPX.HeldZ B (env :: outer) a Z L h' → s.heap.UpToSlots h' → Q () { s with heap := h' }) : wpAny M A (noteFrame (.ref a) env) Q E s := by
  obtain ⟨hkb, hen, hl, oe, vs, T, oT, ts, he, hz, hd, h1, hnT, hTe, hT, hdT, h3⟩ := hfl
  unfold noteFrame
  simp only [hf]
  refine wpAny_bind (wpAny_field he hd h1 ?_)
  rw [if_pos (show (Value.ref T != Value.none) = true from by simp)]
  refine wpAny_bind (wpAny_field hT hdT h3 ?_)
  rw [if_neg (show ¬ ((rawInt C == rawInt L) = true) from fun z => hne (Int.ofNat.inj (by simpa [rawInt] using z)))]
  refine wpAny_bind (wpAny_setField hT hdT (Array.getElem?_eq_some_iff.mp h3).1 ?_)
  have other : ∀ b, b ≠ T → (s.heap.update T (Obj.mapFields (·.setIfInBounds 3 Value.none))).get? b = s.heap.get? b := fun b hb => Heap.get?_update_other _ _ (Ne.symm hb)
  have noRecord : ∀ b o, s.heap.get? b = some o → (∀ vs, o.data ≠ .fields vs) → b ≠ T := fun b o hb hnf q => by
    rw [q, hT] at hb; injection hb with hb; subst hb; exact hnf ts hdT
  refine HandSPX.wpAny_entryZ hZ hfr (hl.of_keeps fun b o hb hnf => ⟨o, (other b (noRecord b o hb hnf)).trans hb, rfl⟩) hf ((other a (Ne.symm hTe)).trans he)
    (fun b o hbo => (other b fun q => by rw [q, hnT] at hbo; cases hbo).trans (hkb b o hbo)) hen hd (Array.getElem?_eq_some_iff.mp h1).1 hz fun h' hN => ?_
  obtain ⟨x1, x2, x3, x4⟩ := hN
  exact hQ h' ⟨x1, hen, x2, x3⟩ fun b o hb hnf => x4 b o ((other b (noRecord b o hb hnf)).trans hb) hnf
theorem sky_note {Q : Unit → Shared → Prop} (hZ : HandSPX.Steady Z) (hfr : A.frames = some (env :: outer)) (hf : env.frame = some L) (hne : C ≠ L) (x : Sky B (env :: outer) a Z C s.heap)
    (hQ : ∀ h', HandSPX.HeldZ B (env :: outer) a Z L h' → s.heap.UpToSlots h' → Q () { s with heap := h' }) : wpAny M A (noteFrame (.ref a) env) Q E s := by
  rcases x with ⟨hB, hn, hl, oe, vs, he, hz, hd, h1⟩ | fl | hh
  · exact HandSPX.look_newZ hZ hfr hl hf he hB hn hd h1 hz hQ
  · exact HandSPX.looks_onZ hZ hfr hf fl hQ
  · exact held_note hZ hfr hf hne hh hQ
theorem pass_held {α : Type} {t : String} {Q : α → Shared → Prop} (hf : env.frame = some L) (hh : HandSPX.HeldZ B (env :: outer) a Z L s.heap)
    (hE : ∀ h', HandSPX.HeldZ B (env :: outer) a Z L h' → s.heap.UpToSlots h' → E (.ref a) { s with heap := h' }) : wpAny M A (PySem.passOn t (.ref a) env : Sem α) Q E s := by
  obtain ⟨f1, f2, f3, oe, vs, T, oT, ts, he, hz, hd, h1, hnT, hTe, hT, hdT, h3⟩ := id hh
  unfold PySem.passOn
  refine wpAny_bind (wpAny_field he hd h1 ?_)
  rw [if_neg (show ¬ ((Value.ref T == Value.none) = true) from by simp), hf]
  exact wpAny_bind (HandSPX.setFlight_onZ hh fun h' k1 k2 => wpAny_throw (hE h' k1 k2))
end
/-! ### the comprehension, its errors told -/
def compPostX (M : Model) (A : Around) (E : Value → Shared → Prop) (env : Env) (use : Option (Value → Sem Unit)) (Q : Value → Shared → Prop) (acc : Value) (C : Addr) (r : Result) (s' : Shared) : Prop :=
  match r, use with
  | .ok _, none => ∃ m, s'.heap.Ns C m ∧ ∀ h', Heap.SameBut C s'.heap h' → Q acc { s' with heap := h' }
  | .ok _, some u => wpAny M A (u acc) (fun _ s'' => ∃ m, s''.heap.Ns C m ∧ ∀ h', Heap.SameBut C s''.heap h' → Q .none { s'' with heap := h' }) E s'
  | .error x, _ => ∃ m, s'.heap.Ns C m ∧ ∀ h', Heap.SameBut C s'.heap h' → wpAny M A (PySem.passOn "comprehension.variables-let-go" x env : Sem Value) (fun _ _ => False) E { s' with heap := h' }
theorem comp_freeX {M : Model} {A : Around} {E : Value → Shared → Prop} {env : Env} {s : Shared} {e : Expr} {scope : Scope} {pos : Pos} {newAcc first : Sem Value} {g : Comprehension} {gs : List Comprehension} {cl : List (Str × Addr)} {use : Option (Value → Sem Unit)}
    {Q : Value → Shared → Prop}
    (hcl : clausesOf e = g :: gs) (hs : ∀ x, foldedSetIterable g.iter env x = pure x) (hclos : closureFor scope env = pure cl)
    (hkind : scope.kind = .function) (hnames : ∀ x ∈ scope.names, x.2 = .local → scope.names.lookup x.1 = some .local)
    (h : wpAny M A first (fun x s₁ => wpAny M A (pyIter x) (fun it s₂ => wpAny M A newAcc (fun acc s₃ =>
      wpAny M A (newFunctionEnv scope env.globals cl [] env.qual none .none (some env)) (fun cenv s₄ =>
        cenv.frame = env.frame ∧ codeAny M A (.compStart e 0 it acc { cenv with scope := relabel scope env }) (compPostX M A E env use Q acc cenv.locals) s₄) E s₃) E s₂) E s₁) E s) :
    wpAny M A (comprehension e scope env pos newAcc false first use) Q E s := by
  unfold comprehension
  rw [hclos, hcl]
  refine wpAny_bind (wpAny_mono h (fun x s₁ h₁ => wpAny_bind (wpAny_standAt (wpAny_bind (wpAny_of_eq (hs x) (wpAny_bind (wpAny_holding (wpAny_mono h₁ (fun it s₂ h₂ =>
    wpAny_standIf (wpAny_bind (wpAny_mono h₂ (fun acc s₃ h₃ => wpAny_bind (wpAny_pure (wpAny_bind (wpAny_mono h₃ (fun cenv s₄ h₄ => ?_) fun _ _ h' => h')))) fun _ _ h' => h')))
      fun _ _ h' => h'))))))) fun _ _ h' => h')
  obtain ⟨hframe, h₄⟩ := h₄
  dsimp only
  have hv : ∀ x ∈ (scope.names.filter fun x => (x.2 == .local || x.2 == .cell) && x.1 != (".0" : Str)).reverse, x.2 = .local →
      Env.kindOf { cenv with scope := relabel scope env } x.1 = some .local := fun x hx hl => lookup_relabel_local (hnames x (List.mem_filter.mp (List.mem_reverse.mp hx)).1 hl)
  have hv' : ∀ x ∈ (scope.names.filter fun x => (x.2 == .local || x.2 == .cell) && x.1 != (".0" : Str)).reverse.drop 1 ++ (scope.names.filter fun x => (x.2 == .local || x.2 == .cell) && x.1 != (".0" : Str)).reverse.take 1,
      x.2 = .local → Env.kindOf { cenv with scope := relabel scope env } x.1 = some .local := fun x hx hl => by
    rcases List.mem_append.mp hx with h1 | h1
    · exact hv x (List.mem_of_mem_drop h1) hl
    · exact hv x (List.mem_of_mem_take h1) hl
  refine wpAny_holding (wpAny_bind (wpAny_attempt (wpAny_holding (wpAny_run (codeAny_mono h₄ fun r s' hr => ?_)))))
  cases r with
  | ok f =>
    cases use with
    | none =>
      obtain ⟨m, hn, hr⟩ := hr
      exact wpAny_bind (wpAny_holding (wpAny_comp_letGo (cenv := { cenv with scope := relabel scope env }) hkind _ s' m hv hn fun h' m' _ hs' => wpAny_pure (hr h' hs')))
    | some u =>
      refine wpAny_bind (wpAny_rule (wpAny_bind (wpAny_holding (wpAny_mono hr (fun _ s'' hr' => ?_) fun _ _ h' => h'))))
      obtain ⟨m, hn, hr'⟩ := hr'
      exact wpAny_bind (wpAny_comp_letGo (cenv := { cenv with scope := relabel scope env }) hkind _ s'' m hv' hn fun h' m' _ hs' => wpAny_pure (hr' h' hs'))
  | error x =>
    have hr' : ∃ m, s'.heap.Ns cenv.locals m ∧ ∀ h', Heap.SameBut cenv.locals s'.heap h' → wpAny M A (PySem.passOn "comprehension.variables-let-go" x env : Sem Value) (fun _ _ => False) E { s' with heap := h' } := by cases use <;> exact hr
    obtain ⟨m, hn, hr⟩ := hr'
    refine wpAny_bind (wpAny_holding (wpAny_comp_letGo (cenv := { cenv with scope := relabel scope env }) hkind _ s' m hv hn fun h' m' _ hs' => ?_))
    have z := hr h' hs'
    rw [← pass_frame (α := Value) (t := "comprehension.variables-let-go") (x := x) (e1 := { cenv with scope := relabel scope env }) (e2 := env) hframe] at z
    exact wpAny_mono z (fun _ _ f => f.elim) fun _ _ y => y
/-! ### the block -/
abbrev blkx (X : Cx) (s : Shared) (H : Hp) (scope : Scope) (cenv : Env) (fp : List Addr) (xe : Value → Shared → Prop) : Cx := (X.blk s H scope cenv fp).tr [] xe
theorem inv_wx {X : Cx} {pins : List (Addr × Obj)} {σ : L2.St} {H : Hp} {s : Shared} {xe : Value → Shared → Prop} (I : Inv X pins σ H s) : Inv (X.tr X.pn xe) pins σ H s :=
  ⟨I.ok.toTry _ _, I.os, I.bare, I.base, I.loc, I.cell, I.free, I.freeC, I.pin, I.hok, I.len⟩
theorem inv_ux {X : Cx} {pins : List (Addr × Obj)} {σ : L2.St} {H : Hp} {s : Shared} {xe : Value → Shared → Prop} (I : Inv (X.tr X.pn xe) pins σ H s) : Inv X pins σ H s :=
  ⟨I.ok.ofTry, I.os, I.bare, I.base, I.loc, I.cell, I.free, I.freeC, I.pin, I.hok, I.len⟩
section
variable {X : Cx} {W : WX}
theorem takes_blkx {s : Shared} {H : Hp} {scope : Scope} {cenv : Env} {fp : List Addr} : Takes (blkx X s H scope cenv fp (XE (X.blk s H scope cenv fp) W)) W := by
  rintro u s' ⟨a, B, sI, pins, σ, H1, cls, d, e, I, r⟩
  exact ⟨a, B, sI, pins, σ, H1, cls, d, e, inv_ux (X := X.blk s H scope cenv fp) I, r⟩
/-- an exception of the block: noted, the block's names gone, passed on -/
theorem blk_err {pins : List (Addr × Obj)} {s3 s5 : Shared} {σ : L2.St} {H3 : Hp} {scope : Scope} {cl : List (Str × Addr)} {fp : List Addr} {use : Option (Value → Sem Unit)} {Qf : Value → Shared → Prop} {acc u : Value}
    (hst : X.stack = X.env :: X.outer) (hf : X.env.frame = some X.env.locals) (tk : Takes X W) (I3 : Inv X pins σ H3 s3) (f3 : ∀ b ∈ fp, FpOk X pins H3 b)
    (x : XE (X.blk s3 H3 scope (compEnvC scope cl s3.heap.objs.size X.env) fp) (fun c d _ H' => W c d σ H') u s5) :
    notedBy (model X.prog X.w) X.A (compEnvC scope cl s3.heap.objs.size X.env) (fun e s' => compPostX (model X.prog X.w) X.A X.xe X.env use Qf acc s3.heap.objs.size (.error e) s') u s5 := by
  obtain ⟨a, B, sI, pinsb, σb, Hb, cls, d, rfl, Ib, nb, up, sky, na, os, ag, hw⟩ := x
  have I0 : Inv X pins σ Hb sI := I3.call' (ch := fp) Ib.os Ib.base Ib.hok Ib.bare fun b hb => ⟨(f3 b hb).2.2.2.1, (f3 b hb).2.1, (f3 b hb).2.2.2.2.1, (f3 b hb).2.2.2.2.2⟩
  have hC : Hb s3.heap.objs.size = none := Ib.free
  obtain ⟨f0, f1, f2, f4, f5, f6⟩ := I3.fpOk (Nat.le_refl _) hC
  have hfr : X.A.frames = some (X.env :: X.outer) := by rw [I3.ok.frames, hst]
  have nst : s3.heap.objs.size ∉ frs X.stack := fun z => by
    rcases List.mem_cons.mp (I3.stkSub _ z) with q | q
    · exact f1 q
    · exact f2 q
  have sky : Sky B (X.env :: X.outer) a (Zc cls d) s3.heap.objs.size s5.heap := by
    rw [← hst]; exact sky
  unfold notedBy
  rw [note_frame (e1 := compEnvC scope cl s3.heap.objs.size X.env) (e2 := X.env) rfl]
  refine sky_note Zc.steady hfr hf f1 sky fun h6 held up6 => ?_
  obtain ⟨m, ⟨oC, es, ep, hoC, rC⟩, _⟩ := Ib.loc
  have hoC : sI.heap.get? s3.heap.objs.size = some oC := hoC
  have h6C : h6.get? s3.heap.objs.size = some oC := held.1 _ _ (nb _ _ hoC nst)
  show ∃ m, h6.Ns s3.heap.objs.size m ∧ ∀ h', Heap.SameBut s3.heap.objs.size h6 h' → wpAny _ _ _ _ _ _
  refine ⟨m, ⟨oC, es, ep, h6C, rC⟩, fun h' sb => ?_⟩
  have notF : ∀ vs, oC.data ≠ .fields vs := fun vs z => by
    have := rC.2
    first
    | (rw [z] at this; simp at this; done)
    | (obtain ⟨q, _⟩ := rC; rw [q] at z; cases z)
    | (simp_all; done)
  obtain ⟨G, g1, g2⟩ := restrict sI.heap fun b => decide (b ≠ s3.heap.objs.size)
  obtain ⟨B', b1, b2⟩ := restrict B fun b => decide (b ≠ s3.heap.objs.size)
  have gN : ∀ b, b ≠ s3.heap.objs.size → G.get? b = sI.heap.get? b := fun b hb => g1 b (by simpa using hb)
  have bN : ∀ b, b ≠ s3.heap.objs.size → B'.get? b = B.get? b := fun b hb => b1 b (by simpa using hb)
  have bO : ∀ b o, B'.get? b = some o → b ≠ s3.heap.objs.size ∧ B.get? b = some o := fun b o e => by
    by_cases hb : b = s3.heap.objs.size
    · rw [b2 b (by simpa using hb)] at e; cases e
    · exact ⟨hb, by rw [← bN b hb]; exact e⟩
  have gO : ∀ b o, G.get? b = some o → b ≠ s3.heap.objs.size ∧ sI.heap.get? b = some o := fun b o e => by
    by_cases hb : b = s3.heap.objs.size
    · rw [g2 b (by simpa using hb)] at e; cases e
    · exact ⟨hb, by rw [← gN b hb]; exact e⟩
  have bnone : ∀ b, B.get? b = none → B'.get? b = none := fun b e => by
    cases q : B'.get? b with
    | none => rfl
    | some o => rw [(bO b o q).2] at e; cases e
  have I1 : Inv X pins σ Hb { sI with heap := G } := I0.turned (t' := sI.toks) (fun b o hb e => (gN b hb).trans e) f0 f1 f4 f5 f6
  obtain ⟨q1, q2, q3, oe, vs, T, oT, ts, he, hz, hd, h1, hnT, hTe, hT, hdT, hfl⟩ := held
  have aC : a ≠ s3.heap.objs.size := fun z => by rw [z, h6C] at he; cases he; exact notF _ hd
  have tC : T ≠ s3.heap.objs.size := fun z => by rw [z, h6C] at hT; cases hT; exact notF _ hdT
  have held2 : HandSPX.HeldZ B' (X.env :: X.outer) a (Zc cls d) X.env.locals h' := by
    refine ⟨fun b o e => (sb.2 b (bO b o e).1).trans (q1 b o (bO b o e).2), bnone a q2, ?_, oe, vs, T, oT, ts, (sb.2 a aC).trans he, hz, hd, h1, bnone T hnT, hTe, (sb.2 T tC).trans hT, hdT, hfl⟩
    have ff : h6.FunFrames B' (X.env :: X.outer) := funFrames_none q3 fun L hL => bnone L (q3.mem hL).1
    refine Heap.FunFrames.of_keeps (fun b o e _ => ?_) (?_ : h'.FunFrames B' (X.env :: X.outer))
    · exact ⟨o, e, rfl⟩
    · have keep : ∀ b ∈ frs (X.env :: X.outer), h'.get? b = h6.get? b := fun b hb => sb.2 b fun z => nst (by rw [← z, hst]; exact hb)
      revert ff keep
      generalize X.env :: X.outer = l
      intro ff keep
      induction l with
      | nil => trivial
      | cons env rest ih =>
        obtain ⟨hk, ⟨L, o, hf, hn, ho, hd⟩, hr⟩ := ff
        refine ⟨hk, ⟨L, o, hf, hn, (keep L (List.mem_filterMap.mpr ⟨env, List.mem_cons_self, hf⟩)).trans ho, hd⟩, ih hr fun b hb => ?_⟩
        obtain ⟨e, he, q⟩ := List.mem_filterMap.mp hb
        exact keep b (List.mem_filterMap.mpr ⟨e, List.mem_cons_of_mem _ he, q⟩)
  refine pass_held hf held2 fun h7 held3 up7 => tk _ _ ⟨a, B', { sI with heap := G }, pins, σ, Hb, cls, d, rfl, I1, fun b o e hb => ?_, ?_, .inr (.inr (by rw [hst]; exact held3)), na, os, ag, hw⟩
  · rw [bN b (gO b o e).1]
    exact nb b o (gO b o e).2 hb
  · intro b o e hnf
    obtain ⟨hb, e1⟩ := gO b o e
    obtain ⟨sl, e2⟩ := up b o e1 hnf
    obtain ⟨sl2, e3⟩ := up6 b _ e2 hnf
    obtain ⟨sl3, e4⟩ := up7 b _ ((sb.2 b hb).trans e3) hnf
    exact ⟨sl3, e4⟩
end

section
variable {X : Cx} {W : WX}
theorem lcx_core {pins : List (Addr × Obj)} {s : Shared} {σ : L2.St} {H : Hp} {Q : VK} {elt tg iter : Expr} {ifs : List Expr} {scope : Scope} {own : List (Str × Nat)} {pos pos' : Pos} {wi : TI} {g : WX → TG} {tt : WX → TT} {te : WX → TE} {use : Option (Value → Sem Unit)} {Qf : Value → Shared → Prop}
    (hc : X.calm = true) (hN : X.N.Nodup) (hst : X.stack = X.env :: X.outer) (hf : X.env.frame = some X.env.locals) (tk : Takes X W) (I : Inv X pins σ H s) (hi : PI X tg iter wi) (ok : BlkOk X.N X.env.scope scope own)
    (hg : ∀ (s : Shared) (H : Hp) (C : Addr) (cl : List (Str × Addr)) (fp : List Addr) (W' : WX) (xe : Value → Shared → Prop), Takes (blkx X s H scope (compEnvC scope cl C X.env) fp xe) W' → PG (blkx X s H scope (compEnvC scope cl C X.env) fp xe) tg (g W'))
    (ht : ∀ (s : Shared) (H : Hp) (C : Addr) (cl : List (Str × Addr)) (fp : List Addr) (W' : WX) (xe : Value → Shared → Prop), Takes (blkx X s H scope (compEnvC scope cl C X.env) fp xe) W' → PTs (blkx X s H scope (compEnvC scope cl C X.env) fp xe) ifs (tt W'))
    (he : ∀ (s : Shared) (H : Hp) (C : Addr) (cl : List (Str × Addr)) (fp : List Addr) (W' : WX) (xe : Value → Shared → Prop), Takes (blkx X s H scope (compEnvC scope cl C X.env) fp xe) W' → PE (blkx X s H scope (compEnvC scope cl C X.env) fp xe) elt (te W')) (hs : ∀ x, foldedSetIterable iter X.env x = pure x)
    (h : tLc wi (g fun c d _ H' => W c d σ H') (tt fun c d _ H' => W c d σ H') (te fun c d _ H' => W c d σ H') (own.map (·.2)) σ H Q)
    (hRR : ∀ D C s' m H', Inv X pins σ H' s' → Q (.ref D) H' → s'.heap.Ns C m → FpOk X pins H' C → compPostX (model X.prog X.w) X.A X.xe X.env use Qf (.ref D) C (.ok .next) s') :
    wpAny (model X.prog X.w) X.A (comprehension (.ListComp elt [⟨tg, iter, ifs, 0⟩] scope pos) scope X.env pos' (newList []) false (eval iter X.env) use) Qf X.xe s := by
  have hfree : ∀ y ∈ scope.names, y.2 = .free → ∃ c, X.env.cells.lookup y.1 = some c := fun y hy e => by
    rcases ok.free y hy e with k | k
    · exact I.ok.has _ (.inl k)
    · exact I.ok.has _ (.inr k)
  refine comp_freeX (use := use) rfl hs (closure_ok hfree) ok.kind (fun y hy e => by rw [ok.uniq y hy, e])
    (thn (hi.run pins s σ H _ I h) fun xv s1 hx => thn hx fun itv s2 h2 => ?_)
  obtain ⟨it, fp, tn, J, H2, e, I2, T, st2, f2, q⟩ := h2
  subst e
  refine wpAny_newObj_type (newEnv_comp ⟨rfl, ?_⟩) (by show 0 ≤ sizeLine; decide)
  generalize hD : s2.heap.objs.size = D
  have hDn : H2 D = none := I2.hok.fresh (Nat.le_of_eq hD)
  obtain ⟨Wt, ⟨m0, w0⟩, turn⟩ := q D hDn
  generalize hs3 : ({ s2 with heap := s2.heap.push { cls := .type "list", data := .seq ([] : List Value).toArray } } : Shared) = s3
  have I3 : Inv X pins σ (upd H2 D (.lst [])) s3 := by
    rw [← hs3]
    refine I2.laid (t' := s2.toks) (fun b o e => Heap.get?_push_of_some _ e) (Nat.le_of_eq hD) ⟨Nat.zero_le _, [], 0, .nil, ?_⟩
    rw [← hD]
    exact Heap.get?_push_size _ rfl
  have h3 : s3.heap = s2.heap.push { cls := .type "list", data := .seq ([] : List Value).toArray } := by rw [← hs3]
  have sz : ∀ b ∈ fp, b < s2.heap.objs.size := fun b hb => by
    obtain ⟨o, e, _⟩ := T.obj _ _ st2 b hb
    exact Heap.lt_size e
  have f3 : ∀ b ∈ fp, FpOk X pins (upd H2 D (.lst [])) b ∧ b < s3.heap.objs.size := fun b hb => by
    have hlt := sz b hb
    refine ⟨⟨?_, (f2 b hb).2⟩, by rw [h3, Heap.size_push]; exact Nat.lt_succ_of_lt hlt⟩
    rw [upd_ne (by rw [← hD]; exact Nat.ne_of_lt hlt)]
    exact (f2 b hb).1
  have st3 : tn 0 s3.heap := T.keep _ _ _ st2 fun b _ o e => by rw [h3]; exact Heap.get?_push_of_some _ e
  have I4 := block_start I3 ok hN f3
  obtain ⟨cl, ecl⟩ : ∃ cl, cl = cellsFrom (s3.heap.objs.size + 1) scope.names (cloFrom X.env.cells scope.names []) := ⟨_, rfl⟩
  rw [← ecl] at I4
  have tkb := takes_blkx (X := X) (W := fun c d _ H' => W c d σ H') (s := s3) (H := upd H2 D (.lst [])) (scope := scope) (cenv := compEnvC scope cl s3.heap.objs.size X.env) (fp := fp)
  have pg := hg _ _ _ _ _ _ _ tkb
  have pt := ht _ _ _ _ _ _ _ tkb
  have pe := he _ _ _ _ _ _ _ tkb
  have I4 := inv_wx (xe := XE (X.blk s3 (upd H2 D (.lst [])) scope (compEnvC scope cl s3.heap.objs.size X.env) fp) (fun c d _ H' => W c d σ H')) I4
  show codeAny _ _ (.compStart (.ListComp elt [⟨tg, iter, ifs, 0⟩] scope pos) 0 (.ref it) (.ref D) (compEnvC scope (cellsFrom (s3.heap.objs.size + 1) scope.names (cloFrom X.env.cells scope.names [])) s3.heap.objs.size X.env)) (compPostX (model X.prog X.w) X.A X.xe X.env use Qf (.ref D) s3.heap.objs.size) { s3 with heap := pushCells (s3.heap.push { cls := .type "dict", data := .dict #[] }) scope.names }
  rw [← ecl]
  have nfp : ∀ b ∈ fp, (upd H2 D (.lst [])) b = none := fun b hb => (f3 b hb).1.1
  generalize hH3 : upd H2 D (.lst []) = H3 at I3 I4 pg pt pe w0 nfp f3 tkb
  have err : ∀ (e : Value) (s' : Shared), XE (X.blk s3 H3 scope (compEnvC scope cl s3.heap.objs.size X.env) fp) (fun c d _ H' => W c d σ H') e s' →
      notedBy (model X.prog X.w) X.A (compEnvC scope cl s3.heap.objs.size X.env) (fun e s' => compPostX (model X.prog X.w) X.A X.xe X.env use Qf (.ref D) s3.heap.objs.size (.error e) s') e s' :=
    fun e s' x => blk_err hst hf tk I3 (fun b hb => (f3 b hb).1) x
  generalize hxe : XE (X.blk s3 H3 scope (compEnvC scope cl s3.heap.objs.size X.env) fp) (fun c d _ H' => W c d σ H') = xb at I4 pg pt pe tkb err
  generalize hce : compEnvC scope cl s3.heap.objs.size X.env = ce at I4 pg pt pe err ⊢
  have cL : ce.locals = s3.heap.objs.size := by subst hce; rfl
  generalize hs4 : ({ s3 with heap := pushCells (s3.heap.push { cls := .type "dict", data := .dict #[] }) scope.names } : Shared) = s4 at I4 ⊢
  have I4 : Inv (blkx X s3 H3 scope ce fp xb) [] (wipe σ (own.map (·.2))) H3 s4 := I4
  have st4 : tn 0 s4.heap := T.keep _ _ _ st3 fun b _ o e => by rw [← hs4]; exact pushCells_keeps _ _ _ _ (Heap.get?_push_of_some _ e)
  have stat : ∀ {σ' : L2.St} {H' : Hp} {s' : Shared}, Inv (blkx X s3 H3 scope ce fp xb) [] σ' H' s' → (∀ b ∈ fp, H' b = none) → ∀ b ∈ fp, FpOk (blkx X s3 H3 scope ce fp xb) [] H' b := fun {σ' H' s'} I' hn b hb =>
    ⟨hn b hb, (I'.ok.exf b hb).1, I'.ok.exfs b hb, .inl hb, fun x c e => (I'.ok.exf b hb).2 x c e, fun p hp => absurd (show p ∈ ([] : List (Addr × Obj)) ++ [] from hp) (by simp)⟩
  have loop : codeAny (model X.prog X.w) X.A (.compLoop (.ListComp elt [⟨tg, iter, ifs, 0⟩] scope pos) 0 (.ref it) (.ref D) ce) (compPostX (model X.prog X.w) X.A X.xe X.env use Qf (.ref D) s3.heap.objs.size) s4 := by
    refine compLoop_any (fun n s' => ∃ i H', Inv (blkx X s3 H3 scope ce fp xb) [] (wipe σ (own.map (·.2))) H' s' ∧ tn i s'.heap ∧ (∀ b ∈ fp, H' b = none) ∧ Wt i n H') ?_ m0 ⟨0, H3, I4, st4, nfp, w0⟩
    rintro n s5 ⟨i, H5, I5, st5, n5, w5⟩
    rcases turn i n H5 w5 with ⟨stop, qq⟩ | ⟨go, Nx, hNx, step⟩
    · have td := T.done (blkx X s3 H3 scope ce fp xb) rfl rfl rfl hc i [] s5 _ H5 (fun _ _ => False) I5 (stat I5 n5) st5 stop
      refine thnF td fun r s6 ⟨hr, I6⟩ => ?_
      subst hr
      have I7 : Inv X pins σ H5 s6 := I3.call' (ch := fp) I6.os I6.base I6.hok I6.bare fun b hb => ⟨(f3 b hb).1.2.2.2.1, (f3 b hb).1.2.1, (f3 b hb).1.2.2.2.2.1, (f3 b hb).1.2.2.2.2.2⟩
      have nC : H5 s3.heap.objs.size = none := by
        have z : H5 ce.locals = none := I6.free
        rw [cL] at z
        exact z
      obtain ⟨m, hn, _⟩ := I6.loc
      have hn : s6.heap.Ns ce.locals m := hn
      rw [cL] at hn
      exact hRR D s3.heap.objs.size s6 m H5 I7 qq hn (I3.fpOk (Nat.le_refl _) nC)
    · have ti := T.item (blkx X s3 H3 scope ce fp xb) rfl rfl rfl hc i [] s5 _ H5 (fun _ _ => False) I5 (stat I5 n5) st5 go
      refine thnF ti fun r s6 ⟨u, hr, h6⟩ => ?_
      subst hr
      refine thnF h6 fun _ s7 ⟨x, H7, I7, r7, y7, st7, n7⟩ => ?_
      have I7' := I7.pinned (stat I7 n7) (T.obj _ _ st7)
      refine wpAny_mono (pg.run _ s7 _ H7 x u _ I7' r7 (step x H7 y7)) (fun _ s8 ⟨σ8, H8, I8, hw8, q8⟩ => ?_) err
      refine wpAny_mono (pt.run _ s8 σ8 H8 _ I8 q8) (fun b s9 ⟨H9, I9, q9⟩ => ?_) err
      have fin : ∀ {s' : Shared} {H' : Hp}, Inv (blkx X s3 H3 scope ce fp xb) ([] ++ pinsAt fp s7.heap) σ8 H' s' → Nx H' → ∃ m, m < n ∧ ∃ i H', Inv (blkx X s3 H3 scope ce fp xb) [] (wipe σ (own.map (·.2))) H' s' ∧ tn i s'.heap ∧ (∀ b ∈ fp, H' b = none) ∧ Wt i m H' := fun {s' H'} I' nx => by
        obtain ⟨m', hm, w'⟩ := hNx H' nx
        have pin' : ∀ b ∈ fp, ∀ o, s7.heap.get? b = some o → s'.heap.get? b = some o ∧ H' b = none := fun b hb o e =>
          let z := I'.pin (b, o) (List.mem_append_right _ (List.mem_append_right _ (mem_pinsAt hb e)))
          ⟨z.1, z.2.1⟩
        have hl : (wipe σ (own.map (·.2))).length = σ8.length := by rw [← hw8, wipe_length]
        refine ⟨m', hm, i + 1, H', (I'.unpinned (pins := [])).weak hl (fun j v e => ?_), T.keep _ _ _ st7 fun b hb o e => (pin' b hb o e).1, fun b hb => ?_, w'⟩
        · rw [← hw8] at e
          exact (wipe_some e).1
        · obtain ⟨o, e, _⟩ := T.obj _ _ st7 b hb
          exact (pin' b hb o e).2
      cases b with
      | false =>
        simp only [Bool.false_eq_true, if_false] at q9 ⊢
        exact fin I9 q9
      | true =>
        simp only [if_true] at q9 ⊢
        refine wpAny_mono (pe.run _ s9 σ8 H9 _ I9 q9) (fun z s10 ⟨yv, H10, I10, r10, acc, hD10, hz10, nx⟩ => ?_) err
        exact app_ok (X := blkx X s3 H3 scope ce fp xb) I10 hD10 hz10 r10 fun s11 I11 => fin I11 nx
  exact codeAny_compStart_list loop (T.self X.A 0 _ _ _ st4 loop)
end
/-! ### mirrors -/
def compGoX (g : GX) (t : TX) (e : EX) (δ : DS) : List D → List D → M D
  | [], acc => if szOk acc.length then M.ret (.lst acc) else M.stuck
  | d :: r, acc => match g d δ with
    | none => M.stuck
    | some δ1 => (t δ1).bnd fun b => if b = true then (e δ1).bnd fun y => if decide (acc.length < 16777216) then compGoX g t e δ r (acc ++ [y]) else M.stuck else compGoX g t e δ r acc
def mCompX (f : DS → M (List D)) (g : GX) (t : TX) (e : EX) (vs : List Nat) : EX := fun δ => (f δ).bnd fun ds => compGoX g t e (wipeD δ vs) ds []
abbrev Am.wx (m : Am) (W : WX) : Am := { m with W := W }
section
variable {X : Cx} {m : Am} {pos : Pos}
theorem Bx.blkx {j : Nat} {s : Shared} {H : Hp} {scope : Scope} {cenv : Env} {fp : List Addr} {W : WX} {xe : Value → Shared → Prop} (b : Bx X m j) (tk : Takes (ME.blkx X s H scope cenv fp xe) W) : Bx (ME.blkx X s H scope cenv fp xe) (m.wx W) j :=
  ⟨tk, b.hq, b.hr, b.calm, b.hK, b.hS, fun pins σ H1 s1 e s2 I c => by obtain ⟨_, _, _, _, _, _, _, _, _, _, _, _, z⟩ := c; exact z.elim⟩
theorem tLcX_of {own : List (Str × Nat)} {f : DS → M (List D)} {g : GX} {t : TX} {e : EX} {σ : L2.St} {H : Hp} {Q : VK} (h : tE m (mCompX f g t e (own.map (·.2))) σ H Q) :
    tLc (tI m f) (tG (m.wx fun c d _ H' => m.W c d σ H') (own.map (·.2)) g) (tT (m.wx fun c d _ H' => m.W c d σ H') t) (tE (m.wx fun c d _ H' => m.W c d σ H') e) (own.map (·.2)) σ H Q := by
  refine (tY_bind (R1 := rIt m) r0_mono h).imp fun J H1 h2 => ?_
  obtain ⟨G1, p1, δ, ⟨_, ds⟩, w1, sl1, ⟨_, it⟩, q1⟩ := h2
  have it : ItR m G1 J ds := it
  intro L hL
  have nL : L ≠ m.pen := w1.ne hL
  have gL : G1 L = none := w1.gfree hL
  let W : Nat → Nat → Hp → Prop := fun i n H => n = ds.length - i ∧ i ≤ ds.length ∧ ∃ G p acc us, Wd m.S m.pen G H p ∧ Ex m.pen G1 H1 G H ∧ G L = none ∧ H L = some (.lst us) ∧ Reps m.S G m.pen us acc ∧
    Post m.S m.pen m.rE G1 H1 Q (fun c d H' => m.W c d σ H') (compGoX g t e (wipeD δ (own.map (·.2))) (ds.drop i) acc p)
  refine ⟨W, ⟨_, rfl, Nat.zero_le _, G1, p1, [], [], w1.allocM hL, Ex.allocM hL, gL, upd_same, .nil, q1⟩, ?_⟩
  rintro i n H2 ⟨rfl, hle, G, p, acc, us, w, x, gl, hl, ra, q⟩
  obtain ⟨go, st⟩ := it G H2 p x.sub w
  by_cases hi : i < ds.length
  · right
    have hd : ds[i]? = some ds[i] := List.getElem?_eq_getElem hi
    obtain ⟨g1, g2⟩ := go i _ hd
    refine ⟨g1, W (i + 1) (ds.length - (i + 1)), fun H' hN => ⟨_, by omega, hN⟩, fun y H' hy => ?_⟩
    obtain ⟨G'', x'', w'', r''⟩ := g2 y H' hy
    rw [List.drop_eq_getElem_cons hi] at q
    dsimp only [compGoX] at q
    cases hg' : g ds[i] (wipeD δ (own.map (·.2))) with
    | none => rw [hg'] at q; exact q.elim
    | some δ' =>
      rw [hg'] at q
      dsimp only at q
      refine ⟨G'', p, _, ds[i], w'', (sl1.ex (x.trans x'')).wipe _, r'', δ', hg', fun σ' o' sl' => ⟨o'.wipe, G'', p, δ', (), w'', sl', trivial, ?_⟩⟩
      dsimp only [M.bnd] at q ⊢
      rcases hs' : t δ' p with _ | ⟨o, p2⟩
      · rw [hs'] at q; exact q.elim
      · rw [hs'] at q
        cases o with
        | ex c fs => exact fun d G3 H3 x3 w3 rx => q d G3 H3 ((x.trans x'').trans x3) w3 rx
        | ok b =>
          intro b' G3 H3 x3 w3 eb
          have eb : b' = b := eb
          subst eb
          dsimp only at q
          have x13 := (x.trans x'').trans x3
          have hl3 : H3 L = some (.lst us) := x3.keep L _ nL (by intro _ z; cases z) (x''.keep L _ nL (by intro _ z; cases z) hl)
          have gl3 : G3 L = none := x3.un L (x''.un L gl (by rw [hl]; simp)) (by rw [x''.keep L _ nL (by intro _ z; cases z) hl]; simp)
          cases b' with
          | false => exact ⟨rfl, hi, G3, p2, acc, us, w3, x13, gl3, hl3, ra.mono (x''.sub.trans x3.sub), q⟩
          | true =>
            simp only [if_true] at q ⊢
            refine ⟨G3, p2, δ', (), w3, sl'.ex x3, trivial, ?_⟩
            dsimp only [M.bnd] at q ⊢
            rcases he' : e δ' p2 with _ | ⟨o, p4⟩
            · rw [he'] at q; exact q.elim
            · rw [he'] at q
              cases o with
              | ex c fs => exact fun d G4 H4 x4 w4 rx => q d G4 H4 (x13.trans x4) w4 rx
              | ok dy =>
                intro v G4 H4 x4 w4 rv
                dsimp only at q
                split at q
                · rename_i hlt
                  have hl4 : H4 L = some (.lst us) := x4.keep L _ nL (by intro _ z; cases z) hl3
                  have gl4 : G4 L = none := x4.un L gl3 (by rw [hl3]; simp)
                  have r4 := ra.mono ((x''.sub.trans x3.sub).trans x4.sub)
                  refine ⟨us, hl4, by rw [r4.length, sizeLine_eq]; exact of_decide_eq_true hlt, rfl, hi, G4, p4, acc ++ [dy], us ++ [v], w4.writeM hl4 (by intro _ z; cases z) (fun c q => lst_code c q) gl4 nL, ?_, gl4, upd_same, r4.append (.cons rv .nil), q⟩
                  have x14 := x13.trans x4
                  refine ⟨x14.sub, fun b o hb ht e => ?_, fun b e => ?_, x14.un⟩
                  · have : b ≠ L := fun z => by rw [z, hL] at e; cases e
                    rw [upd_ne this]; exact x14.keep b o hb ht e
                  · by_cases z : b = L
                    · rw [z]; exact hL
                    · rw [upd_ne z] at e; exact x14.dom b e
                · exact q.elim
  · left
    have : i = ds.length := by omega
    subst this
    refine ⟨st _ (Nat.le_refl _), ?_⟩
    rw [List.drop_length] at q
    dsimp only [compGoX] at q
    split at q
    · refine q (.ref L) (upd G L (.lst us)) H2 ⟨x.sub.trans (Sub.alloc gl), x.keep, x.dom, fun b e n => ?_⟩ (w.freeze hl gl nL) (.lst upd_same (ra.mono (Sub.alloc gl)))
      have : b ≠ L := fun z => n (by rw [z]; exact hL)
      rw [upd_ne this]; exact x.un b e n
    · exact q.elim
theorem me_lcx {elt tg iter : Expr} {ifs : List Expr} {scope : Scope} {own : List (Str × Nat)} {f : DS → M (List D)} {g : GX} {t : TX} {e : EX} (hc : X.calm = true) (hN : X.N.Nodup) (tk : Takes X m.W) (hi : PI X tg iter (tI m f)) (ok : BlkOk X.N X.env.scope scope own)
    (hg : ∀ (s : Shared) (H : Hp) (C : Addr) (cl : List (Str × Addr)) (fp : List Addr) (W' : WX) (xe : Value → Shared → Prop), Takes (blkx X s H scope (compEnvC scope cl C X.env) fp xe) W' → PG (blkx X s H scope (compEnvC scope cl C X.env) fp xe) tg (tG (m.wx W') (own.map (·.2)) g))
    (ht : ∀ (s : Shared) (H : Hp) (C : Addr) (cl : List (Str × Addr)) (fp : List Addr) (W' : WX) (xe : Value → Shared → Prop), Takes (blkx X s H scope (compEnvC scope cl C X.env) fp xe) W' → PTs (blkx X s H scope (compEnvC scope cl C X.env) fp xe) ifs (tT (m.wx W') t))
    (he : ∀ (s : Shared) (H : Hp) (C : Addr) (cl : List (Str × Addr)) (fp : List Addr) (W' : WX) (xe : Value → Shared → Prop), Takes (blkx X s H scope (compEnvC scope cl C X.env) fp xe) W' → PE (blkx X s H scope (compEnvC scope cl C X.env) fp xe) elt (tE (m.wx W') e)) (hs : ∀ x, foldedSetIterable iter X.env x = pure x := by intro _; rfl)
    (hst : X.stack = X.env :: X.outer := by rfl) (hf : X.env.frame = some X.env.locals := by rfl) :
    PE X (.ListComp elt [⟨tg, iter, ifs, 0⟩] scope pos) (tE m (mCompX f g t e (own.map (·.2)))) := by
  refine ⟨fun pins s σ H Q I h => ?_⟩
  rw [eval_ListComp]
  refine lcx_core (W := m.W) (g := fun W => tG (m.wx W) (own.map (·.2)) g) (tt := fun W => tT (m.wx W) t) (te := fun W => tE (m.wx W) e) hc hN hst hf tk I hi ok hg ht he hs (tLcX_of h) fun D C s' m H' I' q hn f => ⟨m, hn, fun h'' sb => ?_⟩
  obtain ⟨f0, f1, f2, f3, f4, f5⟩ := f
  exact ⟨.ref D, H', I'.turned (t' := s'.toks) (fun b o hb e => (sb.2 b hb).trans e) f0 f1 f3 f4 f5, rfl, q⟩
/-- y = [e for ..] -/
theorem ms_setLcx {i : Nat} {y : Str} {py spos : Pos} {elt tg iter : Expr} {ifs : List Expr} {scope : Scope} {own : List (Str × Nat)} {f : DS → M (List D)} {g : GX} {t : TX} {e : EX} (hc : X.calm = true) (hN : X.N.Nodup) (tk : Takes X m.W) (hy : X.N[i]? = some y) (hyl : X.env.scope.names.lookup y = some .local)
    (hsw : swapsWith (.ListComp elt [⟨tg, iter, ifs, 0⟩] scope pos) (some (.Name y py)) spos.line X.env = pure true) (hi : PI X tg iter (tI m f)) (ok : BlkOk X.N X.env.scope scope own)
    (hg : ∀ (s : Shared) (H : Hp) (C : Addr) (cl : List (Str × Addr)) (fp : List Addr) (W' : WX) (xe : Value → Shared → Prop), Takes (blkx X s H scope (compEnvC scope cl C X.env) fp xe) W' → PG (blkx X s H scope (compEnvC scope cl C X.env) fp xe) tg (tG (m.wx W') (own.map (·.2)) g))
    (ht : ∀ (s : Shared) (H : Hp) (C : Addr) (cl : List (Str × Addr)) (fp : List Addr) (W' : WX) (xe : Value → Shared → Prop), Takes (blkx X s H scope (compEnvC scope cl C X.env) fp xe) W' → PTs (blkx X s H scope (compEnvC scope cl C X.env) fp xe) ifs (tT (m.wx W') t))
    (he : ∀ (s : Shared) (H : Hp) (C : Addr) (cl : List (Str × Addr)) (fp : List Addr) (W' : WX) (xe : Value → Shared → Prop), Takes (blkx X s H scope (compEnvC scope cl C X.env) fp xe) W' → PE (blkx X s H scope (compEnvC scope cl C X.env) fp xe) elt (tE (m.wx W') e)) (hs : ∀ x, foldedSetIterable iter X.env x = pure x := by intro _; rfl)
    (hst : X.stack = X.env :: X.outer := by rfl) (hf : X.env.frame = some X.env.locals := by rfl) :
    PS X (.Assign [.Name y py] (.ListComp elt [⟨tg, iter, ifs, 0⟩] scope pos) spos) (tS m (sSet i (mCompX f g t e (own.map (·.2))))) := by
  refine ⟨fun pins s σ H Dn I h => ?_⟩
  rw [exec_Assign_Name_used _ _ _ _ hsw]
  refine wpAny_bind (wpAny_standAt (wpAny_bind ?_))
  show wpAny _ X.A (do let _ ← comprehension (.ListComp elt [⟨tg, iter, ifs, 0⟩] scope pos) scope X.env (firstIterPos [⟨tg, iter, ifs, 0⟩] pos) (newList []) false (eval iter X.env) (some (assign (.Name y py) X.env))) _ _ s
  have h : tE m (mCompX f g t e (own.map (·.2))) σ H (fun x H1 => gName i x σ H1 Dn.nx) :=
    (tS_bind (R := m.rE) h).imp fun v H1 ⟨a, G, p, δ, w, x, sl, r, q⟩ => q _ G H1 (Sub.refl _) w x (sl.set r)
  refine wpAny_bind (thn (lcx_core (Qf := fun _ s' => SP X pins Dn .next s') (W := m.W) (g := fun W => tG (m.wx W) (own.map (·.2)) g) (tt := fun W => tT (m.wx W) t) (te := fun W => tE (m.wx W) e) hc hN hst hf tk I hi ok hg ht he hs (tLcX_of h) fun L C s' m H' I' q hn f => ?_) fun _ s' hq => wpAny_pure (wpAny_pure hq))
  show wpAny _ _ (assign (.Name y py) X.env (.ref L)) _ _ _
  refine wpAny_assign_Name (store_ok2 (v := V.ref L) I' hN hy (.inl hyl) rfl (fun s2 I2 ⟨a, sb, ha⟩ => ?_) (.inr hyl))
  obtain ⟨f0, f1, f2, f3, f4, f5⟩ := f
  have haC : C ≠ a := by
    rcases ha with z | z
    · rw [z]; exact f1
    · exact fun e => f4 y a z e.symm
  refine ⟨m, hn.sameBut sb haC, fun h3 sb3 => ?_⟩
  exact ⟨_, H', I2.turned (t' := s2.toks) (fun b o hb e => (sb3.2 b hb).trans e) f0 f1 f3 f4 f5, q⟩
end
end ME

/-! A def that hands a lambda on to a def that calls it. -/
namespace ME
open PySem PySem.Spec PyProof.Rows L2
/-- from the start of Z on, the function at f, called without arguments, does act -/
structure CloAt (Z : Cx) (S : Sg) (pen : Addr) (G0 B : Hp) (kl : Nat) (f : Addr) (act : M D) : Prop where
  fn : ∀ (s1 : Shared) (H1 : Hp), Un Z.fs [] Z.H_0 H1 Z.s_0.heap s1.heap → PySem.W.FnAt f s1.heap
  run : ∀ (A : Around) (outer : List Env) (s1 : Shared) (H1 : Hp) (Q : VK) (E : XK), A.guards = some [] → Room (kl + 1) A → Env0 Z.prog Z.w Z.K Z.mg Z.base A outer s1 H1 → Un Z.fs [] Z.H_0 H1 Z.s_0.heap s1.heap →
    (∃ G p, Wd S pen G H1 p ∧ Ex pen G0 B G H1 ∧ Post S pen (fun G v d => Rep S G pen v d) G H1 Q E (act p)) →
    codeAny (model Z.prog Z.w) A (.call (.ref f) ⟨[], []⟩) (CR (L2.CX Z.prog Z.w) outer Z.prog Z.w H1 s1 Q E) s1
section
variable {X : Cx} {pins : List (Addr × Obj)} {σ : L2.St} {H : Hp} {s : Shared}
theorem clo_run {A : Around} {outer : List Env} {H1 : Hp} {s1 : Shared} {Q : VK} {E : XK} {f c' : Addr} {pm ctv : Value} {params : Arguments} {body : Expr} {scope : Scope} {k : Nat} {tb : XK → TE}
    (I : Inv X pins σ H s) (L : LamX.LamS X.env.scope scope) (hf : s.heap.get? f = some (lamO X params body scope pm c' ctv)) (hfn : H f = none) (hfr : f ∉ frs X.stack)
    (hbind : bindArgs (PySem.W.kla_fn "<lambda>" (lamN X) params body scope (cloFrom X.env.cells scope.names []) pm (.ref c') ctv) ⟨[], []⟩ = pure [])
    (hg : A.guards = some []) (hr : Room (k + 1) A) (e0 : Env0 X.prog X.w X.K X.mg X.base A outer s1 H1) (un : Un (frs X.stack) [] H H1 s.heap s1.heap) (hc : H1 c' = some (LamX.CodeO c' (lamN X)))
    (hbody : ∀ (A : Around) (outer : List Env) (s : Shared) (H : Hp) (E : XK), A.guards = some [] → Room k (A.deeper (LamX.lamEnv X scope s.heap.objs.size f c')) → PE (LamX.lamCx X A outer s H E scope f c') body (tb E))
    (ht : tb E σ H1 Q) : codeAny (model X.prog X.w) A (.call (.ref f) ⟨[], []⟩) (CR (L2.CX X.prog X.w) outer X.prog X.w H1 s1 Q E) s1 := by
  have f1 := un.keep f _ hf hfn hfr (fun z => nomatch z)
  obtain ⟨⟨oc, vs, t, hoc, hdc, hvc⟩, _, _⟩ := e0.hok c' _ hc
  apply PySem.W.kla_callFunE hr.depth f1 rfl L.co L.gen rfl ⟨c', oc, vs, t, rfl, hoc, hdc, hvc⟩
  rw [hbind]
  apply wpAny_pure
  have lim : s1.heap.NoLimit := e0.mod.nolimit.keeps fun b o e => (e0.bs b o e).1
  refine wpAny_newFunctionEnv (fun y hy => (L.own y hy).2) (fun y hy => absurd hy (by simp)) (fun h₁ hns hsb => ⟨lim.fresh _ hsb, ?_⟩) L.kind
  show codeAny _ _ (.expr body (LamX.lamEnv X scope s1.heap.objs.size f c')) _ _
  have kp : ∀ b o, s1.heap.get? b = some o → h₁.get? b = some o := fun b o e => hsb.extBut b o (Nat.ne_of_lt (Heap.lt_size e)) (Heap.get?_push_of_some _ e)
  have J := LamX.lam_start2 (A := A) (outer := outer) (E := E) (f := f) (c' := c') (tk := s1.toks + ([] : List (Str × Value)).length) I L e0 hr.hd un hns kp
  apply PySem.W.kla_codeExpr
  refine wpAny_mono ((hbody A _ s1 H1 E hg (hr.deeper _)).run [] _ _ H1 Q J ht) (fun v s' hq => ?_) fun e s' hq => hq
  obtain ⟨w', H', J', rv, q⟩ := hq
  exact ⟨w', H', J'.os, J'.bare, J'.base, J'.hok, rv, q⟩
end
/-- the def x hands what it gets on, and does h of it -/
def FwdT (P : Program) (w : World) (K : PySem.W.Frag) (mg : Str → Option Value) (base : Heap) (S : Sg) (k : Nat) (x : Str) (h : M D → M D) : Prop :=
  ∃ (g : Addr) (fd : FuncData) (a : Str) (st : Stmt) (Ng : List Str) (oc : Value) (od : Option Addr) (dV kV doc pm : Value) (an : Option Addr) (cdv ct : Value) (osl : Array (Option Value)) (hB : Nat → M D → SX),
    fd = PySem.W.fnOf x x (defArgs st) (defBody st) (defScope st) dV kV doc pm an cdv ct ∧ K.lookup g = some ⟨oc, od, .func fd, osl⟩ ∧ PySem.W.codeIn K cdv x = true ∧ mg x = some (.ref g) ∧ PySem.W.keepIn K (.ref g) = true ∧
    Bd K fd [a] 1 [] [] [.p 0] ∧ FnScope Ng [a] (defScope st) ∧
    (∀ f act p, outOf (hB f act (dsOf Ng.length [.clo f]) p) = h act p) ∧
    ∀ (A : Around) (outer : List Env) (s : Shared) (pen : Addr) (G0 H : Hp) (E : XK) (f : Addr) (act : M D) (kl : Nat), A.guards = some [] → Room k (A.deeper (envOfC x (defScope st) s.heap.objs.size g cdv)) → Room (kl + 2) (A.deeper (envOfC x (defScope st) s.heap.objs.size g cdv)) →
      CloAt (cxOf (L2.CX P w) P w K mg base Ng x (defScope st) g cdv A outer s H E) S pen G0 H kl f act →
      PSs (cxOf (L2.CX P w) P w K mg base Ng x (defScope st) g cdv A outer s H E) (defBody st) (tS ⟨S, pen, G0, H, fun c d _ H' => E c d H'⟩ (hB f act))
section
variable {X : Cx} {m : Am} {j k : Nat} {x : Str} {p pos lpos : Pos} {params : Arguments} {body : Expr} {scope : Scope} {h : M D → M D} {eb : EX} {c P : Addr}
theorem me_lamF (B : Bx X m j) (T : FwdT X.prog X.w X.K X.mg X.base m.S k x h) (hk : Nat.ble (k + 1) j = true) {kl : Nat} (hkl : Nat.ble (kl + 3) j = true) (hg : gloB X.env.scope x = true) (hx : nmB x = true)
    (TB : LamX.TabB X.base X.mg c P) (hcode : X.env.code = .ref c) (hmT : (P, lamN X) ∈ m.S.T) (hu : ∀ q ∈ m.S.T, q.1 = P → q.2 = lamN X) (L : LamX.lamSB X.env.scope scope = true) (hdef : defaultsOf params X.env = ([], []))
    (hbind : ∀ (q : Str) (cl : List (Str × Addr)) (pm cv ctv : Value), bindArgs (PySem.W.kla_fn "<lambda>" q params body scope cl pm cv ctv) ⟨[], []⟩ = pure [])
    (hbody : ∀ (A : Around) (outer : List Env) (s : Shared) (H : Hp) (E : XK) (f c' : Addr) (G0 B0 : Hp), A.guards = some [] → Room kl (A.deeper (LamX.lamEnv X scope s.heap.objs.size f c')) → PE (LamX.lamCx X A outer s H E scope f c') body (tE ⟨m.S, m.pen, G0, B0, fun c d _ H' => E c d H'⟩ eb)) :
    PE X (.Call (.Name x p) [.Lambda params body scope lpos] [] pos) (tE m (mLam h eb)) := by
  obtain ⟨g, fd, a, st, Ng, oc, od, dV, kV, doc, pm, an, cdv, ct, osl, hB, rfl, lk, hcd, hm, hkp, hb, Sg, hU, hG⟩ := T
  refine ⟨fun pins s σ H Q I hh => ?_⟩
  obtain ⟨G, pn, δ, _, w, sl, _, h5⟩ := hh
  have L := LamX.lamS_by L
  refine wpAny_Call_Name_kw (ld_glob I (gl_of hg) hm ?_ (nmB_of hx).1)
  refine PySem.W.callWith_K (h₀ := X.base) I.ok.mod.kin hkp ?_ (by rfl) (by rfl)
  show wpAny _ _ (spliced ((false, eval (.Lambda params body scope lpos) X.env) :: backTo pos (starEach [] X.env))) _ _ s
  refine Calls.spliced_cons (mk_lam I TB hcode hmT hu w.tabs hdef (L.has I.ok) fun f c' pm' ctv H1 s' I1 eN dm T1 hf hfn hfr hco => ?_)
  refine Calls.spliced_nil ⟨I1.kIn, ?_⟩
  have nP : ∀ {a o}, H a = some o → (∀ y, o ≠ .tbl y) → a ≠ P := fun {a o} e n z => by
    obtain ⟨ps, hP, _⟩ := w.tabs _ hmT
    rw [z, hP] at e; exact n _ (Option.some.inj e).symm
  have gP : G P = none := w.gt _ hmT
  have x1 : Ex m.pen G H G H1 := ⟨Sub.refl _, fun a o _ n e => eN a o (nP e n) e, dm, fun a e _ => e⟩
  have w1 : Wd m.S m.pen G H1 pn := by
    obtain ⟨l, e1, e2⟩ := w.pn
    exact ⟨fun a o e => eN a o (fun z => by rw [z, gP] at e; cases e) (w.sub a o e), w.np, ⟨l, eN _ _ (nP e1 (by intro _ z; cases z)) e1, e2⟩, T1, w.gt⟩
  have nc : c' ≠ m.pen := fun z => by
    obtain ⟨l, e1, _⟩ := w1.pn
    rw [z, e1] at hco; exact lst_code _ _ (Option.some.inj hco)
  obtain ⟨its, vd, bd⟩ := hb.ex
  cases vd
  have hrj := B.hr.mono (Nat.le_of_ble_eq_true hk)
  have hrl : Room (kl + 3) X.A := B.hr.mono (Nat.le_of_ble_eq_true hkl)
  have run : codeAny (model X.prog X.w) X.A (.call (.ref g) ⟨[.ref f], []⟩) (CR (L2.CX X.prog X.w) X.stack X.prog X.w H1 s' Q (WE m.W σ)) s' := by
    refine LamX.run_ofS (N := Ng) (ps := [a]) (us := [.ref f]) (vs := [.ref f]) lk hcd Sg hrj I1.env0 (bd s' [.ref f] [] I1.kIn rfl rfl) (.cons rfl .nil) rfl fun hr' => ?_
    have act : CloAt (cxOf (L2.CX X.prog X.w) X.prog X.w X.K X.mg X.base Ng x (defScope st) g cdv X.A X.stack s' H1 (WE m.W σ)) m.S m.pen G H1 kl f (eb δ) := by
      refine ⟨fun s2 H2 un => ⟨_, _, _, _, un.keep f _ hf hfn hfr (fun z => nomatch z)⟩, fun A outer s2 H2 Q2 E2 hgA hrA e0 un hz => ?_⟩
      obtain ⟨G2, p2, w2, x2, h2⟩ := hz
      exact clo_run (X := X) (σ := σ) (H := H1) (s := s') (pins := pins) (tb := fun E => tE ⟨m.S, m.pen, m.G0, m.B, fun c d _ H' => E c d H'⟩ eb) I1 L hf hfn hfr (hbind _ _ _ _ _) hgA hrA e0 un (x2.keep c' _ nc (fun y => LamX.codeO_ne y) hco)
        (fun A outer s H E hA hr2 => hbody A outer s H E f c' m.G0 m.B hA hr2) ⟨G2, p2, δ, (), w2, (sl.ex x1).ex x2, trivial, h2⟩
    refine ⟨_, hG X.A X.stack s' m.pen G H1 (WE m.W σ) f (eb δ) kl B.hq hr' (hrl.deeper _) act, ?_⟩
    refine ⟨G, pn, dsOf Ng.length [.clo f], w1, Ex.refl, SlR.start (.cons (.clo f) .nil), ?_⟩
    have h6 : Post m.S m.pen m.rE G H Q (WE m.W σ) (outOf (hB f (eb δ) (dsOf Ng.length [.clo f]) pn)) := by rw [hU]; exact h5
    rcases he : hB f (eb δ) (dsOf Ng.length [.clo f]) pn with _ | ⟨o, p1⟩
    · rw [he] at h6; exact h6
    · rw [he] at h6
      cases o with
      | nx δ' => exact fun σ' G' H' _ w' x' sl' => h6 .non G' H' (x1.trans x') w' .non
      | rt d => exact fun v G' H' _ w' x' r' => h6 v G' H' (x1.trans x') w' r'
      | bk δ' => exact h6.elim
      | ct δ' => exact h6.elim
      | er c fs δ' => exact fun d σ' G' H' _ w' x' sl' r' => h6 d G' H' (x1.trans x') w' r'
  refine wpAny_call (codeAny_mono run fun r s2 hq => ?_)
  cases r with
  | error e => exact passAt B.tk σ pins H1 s' e s2 I1 hq
  | ok fl =>
    cases fl with
    | ret u => exact I1.after hq
    | next => exact False.elim hq
    | brk => exact False.elim hq
    | cont => exact False.elim hq
/-- y(a), a the lambda that was got, y a def that calls it -/
def mHrd (h : M D → M D) (f : Nat) (act : M D) : EX := fun δ p => match (δ[0]? : Option (Option Sl)) with
  | some (some (.d (.clo g))) => if g = f then h act p else none
  | _ => none
theorem mHrd_at {h : M D → M D} {f : Nat} {act : M D} {δ : DS} {p : Pn} : mHrd h f act (some (.d (.clo f)) :: δ) p = h act p := by
  show (if f = f then h act p else none) = h act p
  rw [if_pos rfl]
def tHrd (m : Am) (h : M D → M D) (f : Nat) (act : M D) : TE := fun σ H Q => ∃ G p δ, Wd m.S m.pen G H p ∧ Ex m.pen m.G0 m.B G H ∧ SlR m.S m.pen m.B G H σ δ ∧ Post m.S m.pen m.rE G H Q (WE m.W σ) (mHrd h f act δ p)
theorem me_hrd {f : Addr} {act : M D} {a y : Str} {p2 : Pos} {kl : Nat} (B : Bx X m j) (T : HrdT X.prog X.w X.K X.mg X.base m.S k y h) (hk : Nat.ble (k + 1) j = true) (hex : X.ex = []) (hrl : Room (kl + 2) X.A) (C : CloAt X m.S m.pen m.G0 m.B kl f act)
    (hg : gloB X.env.scope y = true) (hy : nmB y = true) (hv : varB X.N X.env.scope 0 a = true) : PE X (.Call (.Name y p) [.Name a p2] [] pos) (tHrd m h f act) := by
  obtain ⟨g, fd, b, st, Ng, oc, od, dV, kV, doc, pm, an, cdv, ct, osl, hB, rfl, lk, hcd, hm, hkp, hb, Sg, hN0, hva, hna, hU, hG⟩ := T
  refine ⟨fun pins s σ H Q I hh => ?_⟩
  obtain ⟨G, pn, δ, w, x, sl, h5⟩ := hh
  dsimp only [mHrd] at h5
  unfold varB at hv
  simp only [Bool.and_eq_true] at hv
  have qn := nmB_of hv.2
  rcases e0 : δ[0]? with _ | o
  · rw [e0] at h5; exact h5.elim
  rcases o with _ | sl0
  · rw [e0] at h5; exact h5.elim
  cases sl0 with
  | d z =>
    cases z with
    | clo g0 =>
      rw [e0] at h5
      dsimp only at h5
      by_cases hgf : g0 = f
      · subst hgf
        rw [if_pos rfl] at h5
        obtain ⟨v, e1, r⟩ := sl.val 0 _ e0
        cases r
        refine wpAny_Call_Name_kw (ld_glob I (gl_of hg) hm ?_ (nmB_of hy).1)
        refine PySem.W.callWith_K (h₀ := X.base) I.ok.mod.kin hkp ?_ (by rfl) (by rfl)
        show wpAny _ _ (spliced ((false, eval (.Name a p2) X.env) :: backTo pos (starEach [] X.env))) _ _ s
        refine Calls.spliced_cons (thn ((pe_var (pos := p2) (ixB_of hv.1.1) (visB_of hv.1.2) qn.1 qn.2.1).run pins s σ H (fun v H1 => v = .ref g0 ∧ H1 = H) I ⟨_, e1, rfl, rfl⟩) fun u s1 ⟨v, H1, I1, r1, q1, q2⟩ => ?_)
        subst q1 q2
        obtain rfl : u = Value.ref g0 := r1
        refine Calls.spliced_nil ⟨I1.kIn, ?_⟩
        obtain ⟨its, vd, bd⟩ := hb.ex
        cases vd
        have hrj := B.hr.mono (Nat.le_of_ble_eq_true hk)
        have run : codeAny (model X.prog X.w) X.A (.call (.ref g) ⟨[.ref g0], []⟩) (CR (L2.CX X.prog X.w) X.stack X.prog X.w H1 s1 Q (WE m.W σ)) s1 := by
          refine LamX.run_ofS (N := Ng) (ps := [b]) (us := [.ref g0]) (vs := [.ref g0]) lk hcd Sg hrj I1.env0 (bd s1 [.ref g0] [] I1.kIn rfl rfl) (.cons rfl .nil) rfl fun hr' => ?_
          have act' : ActOk (cxOf (L2.CX X.prog X.w) X.prog X.w X.K X.mg X.base Ng y (defScope st) g cdv X.A X.stack s1 H1 (WE m.W σ)) m.S m.pen G H1 b g0 act := fun W pn2 xe p1 p2 tk => by
            refine ⟨fun pinsZ sZ σZ HZ QZ IZ hz => ?_⟩
            obtain ⟨e0Z, G2, p2', w2, x2, h2⟩ := hz
            apply wpAny_Call_Name_kw
            refine thn ((pe_var (pos := p1) (i := 0) hN0 hva (nmB_of hna).1 (nmB_of hna).2.1).run pinsZ sZ σZ HZ (fun v H1 => v = .ref g0 ∧ H1 = HZ) IZ ⟨.ref g0, e0Z, rfl, rfl⟩) fun u s2 ⟨v, H2, I2, r2, q1, q2⟩ => ?_
            subst q1 q2
            obtain rfl : u = Value.ref g0 := r2
            have J : Inv X pins σ H2 s2 := I1.call' (ch := []) I2.os I2.base I2.hok I2.bare (fun _ z => nomatch z)
            have un : Un X.fs [] X.H_0 H2 X.s_0.heap s2.heap := by
              have := J.base
              rw [hex] at this
              exact this
            apply PySem.W.callWith_F0 (C.fn s2 H2 un)
            have eA : (cxOf (L2.CX X.prog X.w) X.prog X.w X.K X.mg X.base Ng y (defScope st) g cdv X.A X.stack s1 H1 (WE m.W σ)).A = X.A.deeper (envOfC y (defScope st) s1.heap.objs.size g cdv) := rfl
            refine wpAny_call (codeAny_mono (C.run (X.A.deeper (envOfC y (defScope st) s1.heap.objs.size g cdv)) _ s2 H2 QZ (WE W σZ) B.hq (hrl.deeper _) I2.env0 un ⟨G2, p2', w2, x.trans x2, h2⟩) fun r s' hq => ?_)
            cases r with
            | error e => exact passAt tk σZ pinsZ H2 s2 e s' I2 hq
            | ok fl =>
              cases fl with
              | ret u => exact I2.after hq
              | next => exact False.elim hq
              | brk => exact False.elim hq
              | cont => exact False.elim hq
          refine ⟨_, hG X.A X.stack s1 m.pen G H1 (WE m.W σ) g0 act B.hq hr' act', ?_⟩
          refine ⟨G, pn, dsOf Ng.length [.clo g0], w, Ex.refl, SlR.start (.cons (.clo g0) .nil), ?_⟩
          have h6 : Post m.S m.pen m.rE G H1 Q (WE m.W σ) (outOf (hB g0 act (dsOf Ng.length [.clo g0]) pn)) := by rw [hU]; exact h5
          rcases he : hB g0 act (dsOf Ng.length [.clo g0]) pn with _ | ⟨o, p1⟩
          · rw [he] at h6; exact h6
          · rw [he] at h6
            cases o with
            | nx δ' => exact fun σ' G' H' _ w' x' sl' => h6 .non G' H' x' w' .non
            | rt d => exact fun v G' H' _ w' x' r' => h6 v G' H' x' w' r'
            | bk δ' => exact h6.elim
            | ct δ' => exact h6.elim
            | er c fs δ' => exact fun d σ' G' H' _ w' x' sl' r' => h6 d G' H' x' w' r'
        refine wpAny_call (codeAny_mono run fun r s2 hq => ?_)
        cases r with
        | error e => exact passAt B.tk σ pins H1 s1 e s2 I1 hq
        | ok fl =>
          cases fl with
          | ret u => exact I1.after hq
          | next => exact False.elim hq
          | brk => exact False.elim hq
          | cont => exact False.elim hq
      · rw [if_neg hgf] at h5; exact h5.elim
    | _ => rw [e0] at h5; exact h5.elim
  | _ => rw [e0] at h5; exact h5.elim
theorem ms_hrdS {i : Nat} {x y a : Str} {f : Nat} {act : M D} {p1 p2 p3 pos' pos : Pos} (A : PE X (.Call (.Name y p1) [.Name a p2] [] p3) (tHrd m h f act)) (hN : nodB X.N = true) (hs' : stoB X.N X.env.scope i x = true) (hs : swapsWith (.Call (.Name y p1) [.Name a p2] [] p3) (some (.Name x pos')) pos.line X.env = pure false := by rfl) (hf : X.fn x = true := by rfl) :
    PS X (.Assign [.Name x pos'] (.Call (.Name y p1) [.Name a p2] [] p3) pos) (tS m (sSet i (mHrd h f act))) := by
  unfold stoB at hs'
  simp only [Bool.and_eq_true] at hs'
  refine PS.imp (ps_set (nodB_of hN) (ixB_of hs'.1) (locB_of hs'.2) A hs (.inl hf)) fun K σ H hh => ?_
  obtain ⟨G, p, δ, w, x, sl, q⟩ := hh
  refine ⟨G, p, δ, w, x, sl, ?_⟩
  dsimp only [sSet, sBnd] at q
  rcases he : mHrd h f act δ p with _ | ⟨o, p1⟩
  · rw [he] at q; exact q.elim
  · rw [he] at q
    cases o with
    | ok d => exact fun v G' H' x' w' r => q _ G' H' x'.sub w' (x.trans x') ((sl.ex x').set r)
    | ex c fs => exact fun d G' H' x' w' r => q d σ G' H' x'.sub w' (x.trans x') (sl.ex x') r
end
end ME

/-! == of tuples of own objects; lists times ints. -/
namespace PySem
namespace MeTeq
open PySem.Spec PyProof.Rows
section
variable {prog : Program} {w : World} {A : Around} {R : Result → Shared → Prop}
theorem tuple_eqX (l b : Addr) (items items2 : Array Value) (n n2 : Nat) (dd dd2 : Option Addr) (sl sl2 : Array (Option Value)) (I : Nat → Shared → Prop) (T : Shared → Prop)
    (turn : ∀ i (h1 : i < items.size) (h2 : i < items2.size) s, I i s → wpAny (model prog w) A.in1 (eqBool items[i] items2[i]) (fun r s' => if r = true then I (i + 1) s' else T s') (fun e s' => R (.error e) s') s)
    (fin : ∀ s, I (min items.size items2.size) s → R (.ok (.ret (.bool (items.size == items2.size)))) s) (no : ∀ s, T s → R (.ok (.ret (.bool false))) s) {s : Shared} (hl1 : s.heap.get? l = some { cls := .type "tuple", dict := dd, data := .seq items n, slots := sl }) (hb1 : s.heap.get? b = some { cls := .type "tuple", dict := dd2, data := .seq items2 n2, slots := sl2 }) (h : I 0 s) :
    wpAny (model prog w) A.in1 (Builtin.«tuple.__eq__» ⟨[.ref l, .ref b], []⟩) (GQ.FinOf prog w A R) (fun e s' => R (.error e) s') s := by
  have f2 := AutoSeq1.sub_tuple_tuple
  have hZ : (items.toList.zip items2.toList).length = min items.size items2.size := by simp
  have h0 := h
  obtain ⟨hp, g, d, tk, os⟩ := s
  wp_walk using wpAny_loadPart' hl1, wpAny_loadPart' hb1, wpAny_forIn_list _ (fun rest b s' => b.1 = none ∧ ∃ i, rest = (items.toList.zip items2.toList).drop i ∧ i ≤ min items.size items2.size ∧ I i s') _
  case turn =>
    rintro ⟨y, x⟩ rest b s' ⟨hb', i, hz, hi, hI⟩
    have hlt : i < (items.toList.zip items2.toList).length := by
      rcases Nat.lt_or_ge i (items.toList.zip items2.toList).length with h' | h'
      · exact h'
      · rw [List.drop_of_length_le h'] at hz; cases hz
    have hm : i < min items.size items2.size := hZ ▸ hlt
    have h1 : i < items.size := Nat.lt_of_lt_of_le hm (Nat.min_le_left _ _)
    have h2 : i < items2.size := Nat.lt_of_lt_of_le hm (Nat.min_le_right _ _)
    rw [List.drop_eq_getElem_cons hlt] at hz
    injection hz with hyx hrest
    have hy : y = items[i] := by have := congrArg Prod.fst hyx; simpa using this
    have hx : x = items2[i] := by have := congrArg Prod.snd hyx; simpa using this
    subst hy hx
    refine wpAny_bind (wpAny_mono (turn i h1 h2 s' hI) (fun r s2 q2 => ?_) fun _ _ x => x)
    cases r with
    | true =>
      wp_walk
      exact ⟨rfl, i + 1, hrest, hm, q2⟩
    | false =>
      have q3 : T s2 := by simpa using q2
      wp_walk
      exact no _ q3
  case fin =>
    rintro ⟨b1, b2⟩ s' ⟨hb', i, hz, hi, hI⟩
    simp only at hb'
    subst hb'
    have hge : min items.size items2.size ≤ i := by
      rcases Nat.lt_or_ge i (items.toList.zip items2.toList).length with h' | h'
      · rw [List.drop_eq_getElem_cons h'] at hz; cases hz
      · exact hZ ▸ h'
    have hi' : i = min items.size items2.size := by omega
    have hR := fin s' (hi' ▸ hI)
    wp_walk
    simpa [Builtin.Tuple.tupleCompareSizes] using hR
  case h =>
    exact ⟨rfl, 0, rfl, Nat.zero_le _, h0⟩
end
section
variable {prog : Program} {w : World} {A : Around} {E : Value → Shared → Prop} {s : Shared}
theorem rc_tupX {l b : Addr} {items items2 : Array Value} {Q : Value → Shared → Prop} (hu : A.units < cLine) (I : Nat → Shared → Prop) (T : Shared → Prop)
    (hl : s.heap.IsTuple l items) (hb : s.heap.IsTuple b items2)
    (turn : ∀ i (h1 : i < items.size) (h2 : i < items2.size) s, I i s → wpAny (model prog w) A.in1 (eqBool items[i] items2[i]) (fun r s' => if r = true then I (i + 1) s' else T s') E s)
    (fin : ∀ s, I (min items.size items2.size) s → Q (.bool (items.size == items2.size)) s) (no : ∀ s, T s → Q (.bool false) s) (h : I 0 s) : wpAny (model prog w) A (richCompare .Eq (.ref l) (.ref b)) Q E s := by
  obtain ⟨⟨cls, dd, data, sl⟩, ho, hc, n, hd⟩ := id hl
  obtain ⟨⟨cls2, dd2, data2, sl2⟩, ho2, hc2, n2, hd2⟩ := id hb
  simp only at hc hd hc2 hd2
  subst hc hd hc2 hd2
  refine wpAny_richCompare_same_room (op := .Eq) ⟨_, ho, rfl⟩ ⟨_, ho2, rfl⟩ F.slot_tuple_eq (GQ.call_here F.slot_tuple_eq ⟨_, ho, rfl⟩ F.entry_tuple_eq (F.args_tuple_eq_2 _ _) ?_) hu
  exact tuple_eqX (R := wants (fun v s' => v ≠ .notImplemented ∧ Q v s') E) l b items items2 n n2 dd dd2 sl sl2 I T turn (fun s' q => ⟨(fun x => nomatch x), fin s' q⟩) (fun s' q => ⟨(fun x => nomatch x), no s' q⟩) ho ho2 h
end
end MeTeq
end PySem
namespace ME
open PySem PySem.Spec PyProof.Rows L2
theorem pn_ext {p q : Pn} (h : p.cells = q.cells ∧ p.no = q.no ∧ p.rest = q.rest) : p = q := by
  cases p; cases q
  obtain ⟨h1, h2, h3⟩ := h
  simp only at h1 h2 h3
  rw [h1, h2, h3]
def flatB : D → Bool
  | .non => true
  | .bl _ => true
  | .int _ => true
  | .str _ => true
  | _ => false
def flatSame : D → D → Bool
  | .non, .non => true
  | .bl a, .bl b => a == b
  | .int a, .int b => a == b
  | .str a, .str b => a == b
  | _, _ => false
def flatSames : List D → List D → Bool
  | [], [] => true
  | a :: r, b :: t => flatSame a b && flatSames r t
  | _, _ => false
theorem rep_flatSame {S : Sg} {G : Hp} {pen : Addr} {v : V} {d e : D} (h1 : Rep S G pen v d) (h2 : Rep S G pen v e) (f1 : flatB d = true) (f2 : flatB e = true) : flatSame d e = true := by
  cases d with
  | non => cases h1; cases h2; rfl
  | bl a => cases h1; cases h2; simp [flatSame]
  | int a => cases h1; cases h2; simp [flatSame]
  | str a => cases h1; cases h2; simp [flatSame]
  | _ => cases f1
theorem reps_flatSames {S : Sg} {G : Hp} {pen : Addr} : ∀ {vs : List V} {ds es : List D}, Reps S G pen vs ds → Reps S G pen vs es → ds.all flatB = true → es.all flatB = true → flatSames ds es = true
  | _, _, _, .nil, .nil, _, _ => rfl
  | _, _, _, .cons a r, .cons b q, f1, f2 => by
    simp only [List.all_cons, Bool.and_eq_true] at f1 f2
    simp only [flatSames, Bool.and_eq_true]
    exact ⟨rep_flatSame a b f1.1 f2.1, reps_flatSames r q f1.2 f2.2⟩
/-- x == y inside a built-in, both of one own class of flat fields -/
def eqOO (tbl : OTab) : D → D → M Bool
  | .obj c fs, .obj c' gs => match tbl.lookup c with
    | some mf => if c' = c ∧ fs.all flatB = true ∧ gs.all flatB = true then fun p => match mf [.obj c fs, .obj c' gs] p with
        | some (.ok (.bl b), p1) => if flatSames fs gs = true then (if b = true ∧ p1.cells = p.cells ∧ p1.no = p.no ∧ p1.rest = p.rest then some (.ok true, p) else none) else some (.ok b, p1)
        | _ => none
      else M.stuck
    | none => M.stuck
  | _, _ => M.stuck
def teqGo (e : D → D → M Bool) : List D → List D → M Bool
  | [], [] => M.ret true
  | x :: r, y :: t => (e x y).bnd fun b => if b = true then teqGo e r t else M.ret false
  | _, _ => M.ret false
def dTeq (tbl : OTab) : D → D → M D
  | .tup l, .tup r => (teqGo (eqOO tbl) l r).bnd fun b => M.ret (.bl b)
  | _, _ => M.stuck
/-- == by values of the two; no object of the two calls the pen -/
theorem eqOO_run {tbl : OTab} {mf : List D → M D} {c : Nat} {fs gs : List D} {p : Pn} {b : Bool} (hl : tbl.lookup c = some mf) (f1 : fs.all flatB = true) (f2 : gs.all flatB = true) (h : mf [.obj c fs, .obj c gs] p = some (.ok (.bl b), p)) (hb : flatSames fs gs = true → b = true) : eqOO tbl (.obj c fs) (.obj c gs) p = some (.ok b, p) := by
  dsimp only [eqOO]
  rw [hl]
  dsimp only
  rw [if_pos ⟨rfl, f1, f2⟩, h]
  dsimp only
  split
  · rename_i z
    rw [hb z]
    simp
  · rfl
section
variable {X : Cx} {m : Am} {j k : Nat} {tbl : OTab}
theorem eqOO_item {pins : List (Addr × Obj)} {s : Shared} {σ : L2.St} {G H : Hp} {p : Pn} {x y : V} {u v : Value} {dx dy : D} {Q : Bool → Hp → Prop} {A : Around} (B : Bx X m j) (T : ∀ c mf, tbl.lookup c = some mf → OwnT X.prog X.w X.K X.mg X.base m.S k c "__eq__" 2 mf) (hr : Room k A) (hA : A.guards = some []) (hfr : A.frames = X.A.frames)
    (hnf : ∀ c mf, tbl.lookup c = some mf → PySem.W.notFirst m.S.K (m.S.ca c) (.ref (m.S.ca c)) = true)
    (I : Inv X pins σ H s) (w : Wd m.S m.pen G H p) (r1 : Rep m.S G m.pen x dx) (r2 : Rep m.S G m.pen y dy) (rx : RelV x u) (ry : RelV y v) (h : Post m.S m.pen rB G H Q (fun _ _ _ => False) (eqOO tbl dx dy p)) :
    wpAny (model X.prog X.w) A (eqBool u v) (fun r s' => ∃ H', Inv X pins σ H' s' ∧ Q r H') X.xe s := by
  cases id r1 with
  | @obj a ax c vs fs ha hla rra =>
    cases id r2 with
    | @obj b bx c' us gs hb hlb rrb =>
      cases (show u = Value.ref a from rx)
      cases (show v = Value.ref b from ry)
      dsimp only [eqOO] at h
      cases e : tbl.lookup c with
      | none => rw [e] at h; exact h.elim
      | some mf =>
        rw [e] at h
        dsimp only at h
        split at h
        · rename_i hz
          obtain ⟨rfl, f1, f2⟩ := hz
          dsimp only at h
          rcases em : mf [.obj c' fs, .obj c' gs] p with _ | ⟨o, p1⟩
          · rw [em] at h; exact h.elim
          · rw [em] at h
            cases o with
            | ex _ _ => exact h.elim
            | ok d =>
              cases d with
              | bl b0 =>
                dsimp only at h
                by_cases hab : a = b
                · subst hab
                  rw [ha] at hb
                  have e3 := Option.some.inj hb
                  injection e3 with _ _ e4
                  have e5 := zip_snd hla hlb e4
                  subst e5
                  have hs := reps_flatSames rra rrb f1 f2
                  rw [if_pos hs] at h
                  split at h
                  · rename_i hz
                    unfold eqBool
                    refine wpAny_holding ?_
                    refine wpAny_ite_split (fun _ => wpAny_bind (wpAny_rule (wpAny_pure (show ∃ H', Inv X pins σ H' s ∧ Q true H' from ⟨H, I, h true G H Ex.refl w rfl⟩)))) (fun hn => absurd (by simp) hn)
                  · exact h.elim
                · have hpost : Post m.S m.pen rB G H Q (fun _ _ _ => False) (some (.ok b0, p1)) := by
                    split at h
                    · split at h
                      · rename_i hz
                        obtain ⟨rfl, hz⟩ := hz
                        have := pn_ext hz
                        subst this
                        exact h
                      · exact h.elim
                    · exact h
                  obtain ⟨f, fd, ps, F, hs, hf, hbd⟩ := T c' mf e
                  obtain ⟨od, J⟩ := insInst I (w.sub _ _ ha)
                  obtain ⟨od', J'⟩ := insInst I (w.sub _ _ hb)
                  obtain ⟨m', hF⟩ := I.fr
                  refine PySem.MeDec.eqB_of (fun z => hab (by injection z)) (PySem.W.cmp_K (op := .Eq) (tb := .ref (m.S.ca c')) hr.units0 hF I.ok.mod.kin J J'.type (by rw [B.hK]; exact hnf c' mf e) hs hf ?_)
                  obtain ⟨its, vd, bd⟩ := hbd.ex
                  cases vd
                  have bt := bd s [.ref a, .ref b] [] I.kIn rfl rfl
                  have sp : spM m.S mf [.ref a, .ref b] H (fun z H' => ∃ b, z = .bl b ∧ Q b H') (fun _ _ _ => False) := by
                    refine ⟨m.pen, G, p, _, w, .cons r1 (.cons r2 .nil), ?_⟩
                    rw [em]
                    intro z G' H' x' w' r
                    have r : Rep m.S G' m.pen z (.bl b0) := r
                    cases r
                    exact ⟨b0, rfl, hpost b0 G' H' x' w' rfl⟩
                  have e0 : Env0 X.prog X.w X.K X.mg X.base A X.stack s H := by
                    have e := I.env0
                    exact ⟨by rw [hfr]; exact e.frames, e.mod, e.bs, e.bsz, e.funs, e.frf, e.hok, e.bare⟩
                  refine wpAny_call (codeAny_mono (F.run A X.stack s H ⟨[.ref a, .ref b], []⟩ [.ref a, .ref b] [.ref a, .ref b] _ (fun _ _ _ => False) hA hr e0 bt (.cons rfl (.cons rfl .nil)) sp) fun r s' hq => ?_)
                  cases r with
                  | error er => exact B.pf pins σ H s er s' I hq
                  | ok fl =>
                    cases fl with
                    | ret z =>
                      obtain ⟨v', H', I', rv', b, eb, q⟩ := I.after hq
                      subst eb
                      cases (show z = Value.bool b from rv')
                      exact ⟨b, rfl, H', I', q⟩
                    | next => exact False.elim hq
                    | brk => exact False.elim hq
                    | cont => exact False.elim hq
              | _ => exact h.elim
        · exact h.elim
    | _ => exact h.elim
  | _ => exact h.elim
def rTeq (m : Am) (tbl : OTab) : R2 := fun x y H Q => ∃ G p l r, Wd m.S m.pen G H p ∧ Rep m.S G m.pen x (.tup l) ∧ Rep m.S G m.pen y (.tup r) ∧ Post m.S m.pen rB G H (fun b H' => Q (.bl b) H') (fun _ _ _ => False) (teqGo (eqOO tbl) l r p)
theorem eqOO_calm {dx dy : D} {c : Nat} {gs : List D} {p p1 : Pn} (h : eqOO tbl dx dy p = some (.ex c gs, p1)) : False := by
  cases dx with
  | obj c0 fs =>
    cases dy with
    | obj c1 hs =>
      dsimp only [eqOO] at h
      cases e : tbl.lookup c0 with
      | none => rw [e] at h; cases h
      | some mf =>
        rw [e] at h
        dsimp only at h
        by_cases hz : c1 = c0 ∧ fs.all flatB = true ∧ hs.all flatB = true
        · rw [if_pos hz] at h
          rcases em : mf [.obj c0 fs, .obj c1 hs] p with _ | ⟨o, p2⟩
          · rw [em] at h; cases h
          · rw [em] at h
            cases o with
            | ex _ _ => cases h
            | ok d =>
              cases d with
              | bl b0 =>
                dsimp only at h
                by_cases h1 : flatSames fs hs = true
                · rw [if_pos h1] at h
                  by_cases h2 : b0 = true ∧ p2.cells = p.cells ∧ p2.no = p.no ∧ p2.rest = p.rest
                  · rw [if_pos h2] at h; cases h
                  · rw [if_neg h2] at h; cases h
                · rw [if_neg h1] at h; cases h
              | _ => cases h
        · rw [if_neg hz] at h; cases h
    | _ => cases h
  | _ => cases h
theorem op_teq (B : Bx X m j) (T : ∀ c mf, tbl.lookup c = some mf → OwnT X.prog X.w X.K X.mg X.base m.S k c "__eq__" 2 mf) (hk : Nat.ble (k + 1) j = true)
    (hnf : ∀ c mf, tbl.lookup c = some mf → PySem.W.notFirst m.S.K (m.S.ca c) (.ref (m.S.ca c)) = true) : OpR X (compareOp .Eq) (rTeq m tbl) := by
  intro pins s σ H x y v u Q I rx ry h
  obtain ⟨G, p, l, r, w, r1, r2, h⟩ := h
  have hr : Room (k + 1) X.A := B.hr.mono (Nat.le_of_ble_eq_true hk)
  cases id r1 with
  | @tup a vs _ ha rra =>
    cases id r2 with
    | @tup b us _ hb rrb =>
      cases (show v = Value.ref a from rx)
      cases (show u = Value.ref b from ry)
      have ha' := w.sub.sqt ha
      have hb' := w.sub.sqt hb
      rw [← B.hK] at ha' hb'
      obtain ⟨its, q1, pl1, hz1⟩ := I.tuple ha'
      obtain ⟨its2, q2, pl2, hz2⟩ := I.tuple hb'
      have l1 : its.length = l.length := by rw [← q1.length, rra.length]
      have l2 : its2.length = r.length := by rw [← q2.length, rrb.length]
      show wpAny (model X.prog X.w) X.A (richCompare .Eq (.ref a) (.ref b)) (EP X pins σ Q) X.xe s
      refine PySem.MeTeq.rc_tupX hr.units0 (fun i s' => ∃ G' H' p', Wd m.S m.pen G' H' p' ∧ Ex m.pen G H G' H' ∧ Inv X pins σ H' s' ∧ Post m.S m.pen rB G' H' (fun b H' => Q (.bl b) H') (fun _ _ _ => False) (teqGo (eqOO tbl) (l.drop i) (r.drop i) p'))
        (fun s' => ∃ H', Inv X pins σ H' s' ∧ Q (.bl false) H') pl1 pl2 (fun i h1 h2 s' hJ => ?_) (fun s' hJ => ?_) (fun s' hJ => ?_) ⟨G, H, p, w, Ex.refl, I, h⟩
      · obtain ⟨G', H', p', w', x', I', h'⟩ := hJ
        have k1 : i < l.length := by rw [← l1]; simpa using h1
        have k2 : i < r.length := by rw [← l2]; simpa using h2
        rw [List.drop_eq_getElem_cons k1, List.drop_eq_getElem_cons k2] at h'
        obtain ⟨vi, e1, rv⟩ := rra.get (List.getElem?_eq_getElem k1)
        obtain ⟨ui, e2, ru⟩ := q1.get e1
        obtain ⟨vj, e3, rv2⟩ := rrb.get (List.getElem?_eq_getElem k2)
        obtain ⟨uj, e4, ru2⟩ := q2.get e3
        have e5 : its.toArray[i] = ui := by
          simp only [List.getElem_toArray]
          exact (List.getElem?_eq_some_iff.mp e2).2
        have e6 : its2.toArray[i] = uj := by
          simp only [List.getElem_toArray]
          exact (List.getElem?_eq_some_iff.mp e4).2
        rw [e5, e6]
        refine wpAny_mono (eqOO_item (A := X.A.in1) (Q := fun b H2 => if b = true then (∃ G2 p2, Wd m.S m.pen G2 H2 p2 ∧ Ex m.pen G' H' G2 H2 ∧ Post m.S m.pen rB G2 H2 (fun b H' => Q (.bl b) H') (fun _ _ _ => False) (teqGo (eqOO tbl) (l.drop (i + 1)) (r.drop (i + 1)) p2)) else Q (.bl false) H2)
          B T hr.in1 B.hq rfl hnf I' w' (rv.mono x'.sub) (rv2.mono x'.sub) ru ru2 ?_) (fun b s'' hb => ?_) fun _ _ z => z
        · dsimp only [teqGo, M.bnd] at h'
          rcases he : eqOO tbl l[i] r[i] p' with _ | ⟨o, p1⟩
          · rw [he] at h'; exact h'
          · rw [he] at h'
            cases o with
            | ex c fs => exact (eqOO_calm he).elim
            | ok b0 =>
              intro b' G2 H2 x2 w2 hb2
              have hb2 : b' = b0 := hb2
              subst hb2
              dsimp only at h'
              cases b' with
              | true =>
                rw [if_pos rfl] at h' ⊢
                exact ⟨G2, p1, w2, x2, Post.ex x2 h'⟩
              | false =>
                rw [if_neg Bool.false_ne_true] at h' ⊢
                exact h' false G2 H2 x2 w2 rfl
        · obtain ⟨H2, I2, hq⟩ := hb
          cases b with
          | true =>
            rw [if_pos rfl] at hq ⊢
            obtain ⟨G2, p2, w2, x2, h2⟩ := hq
            exact ⟨G2, H2, p2, w2, x'.trans x2, I2, h2⟩
          | false =>
            rw [if_neg Bool.false_ne_true] at hq ⊢
            exact ⟨H2, I2, hq⟩
      · obtain ⟨G', H', p', w', x', I', h'⟩ := hJ
        have hs1 : its.toArray.size = l.length := by simpa using l1
        have hs2 : its2.toArray.size = r.length := by simpa using l2
        rw [hs1, hs2] at h' ⊢
        have hgo : teqGo (eqOO tbl) (l.drop (min l.length r.length)) (r.drop (min l.length r.length)) p' = some (.ok (l.length == r.length), p') := by
          rcases Nat.lt_trichotomy l.length r.length with c | c | c
          · rw [Nat.min_eq_left (Nat.le_of_lt c), List.drop_length, List.drop_eq_getElem_cons c]
            have : (l.length == r.length) = false := by simp; omega
            rw [this]; rfl
          · rw [c, Nat.min_self, ← c, List.drop_length, c, List.drop_length]
            simp [teqGo, M.ret]
          · rw [Nat.min_eq_right (Nat.le_of_lt c), List.drop_length, List.drop_eq_getElem_cons c]
            have : (l.length == r.length) = false := by simp; omega
            rw [this]; rfl
        rw [hgo] at h'
        exact ⟨.bl _, H', I', rfl, h' _ G' H' Ex.refl w' rfl⟩
      · obtain ⟨H', I', q⟩ := hJ
        exact ⟨.bl false, H', I', rfl, q⟩
theorem r_teq : R2Ok m (rTeq m tbl) (dTeq tbl) := by
  rintro σ x y H Q ⟨G, p, δ, ⟨⟨u, dx⟩, dy⟩, w, sl, ⟨⟨_, rx⟩, ry⟩, h⟩
  have rx : Rep m.S G m.pen x dx := rx
  have ry : Rep m.S G m.pen y dy := ry
  cases dx with
  | tup l =>
   cases dy with
   | tup r =>
    dsimp only [dTeq] at h
    refine ⟨G, p, l, r, w, rx, ry, ?_⟩
    dsimp only [M.bnd] at h
    have calm : ∀ (l r : List D) (p : Pn) c fs p1, teqGo (eqOO tbl) l r p ≠ some (.ex c fs, p1) := fun l => by
      induction l with
      | nil =>
        intro r p c fs p1 z
        cases r with
        | nil => cases z
        | cons _ _ => cases z
      | cons a l ih =>
        intro r p c fs p1 z
        cases r with
        | nil => cases z
        | cons b r =>
          dsimp only [teqGo, M.bnd] at z
          rcases he : eqOO tbl a b p with _ | ⟨o, p2⟩
          · rw [he] at z; cases z
          · rw [he] at z
            cases o with
            | ex _ _ => exact eqOO_calm he
            | ok b0 =>
              dsimp only at z
              split at z
              · exact ih _ _ _ _ _ z
              · cases z
    rcases he : teqGo (eqOO tbl) l r p with _ | ⟨o, p1⟩
    · rw [he] at h; exact h
    · rw [he] at h
      cases o with
      | ex c fs => exact (calm _ _ _ _ _ _ he).elim
      | ok b =>
        intro b' G' H' x' w' hb
        have hb : b' = b := hb
        subst hb
        exact h (.bl b') G' H' x' w' (.bl b')
   | _ => exact h.elim
  | _ => exact h.elim
theorem c_teq {cs : List Nat} (B : Bx X m j) (T : ∀ c mf, tbl.lookup c = some mf → OwnT X.prog X.w X.K X.mg X.base m.S k c "__eq__" 2 mf) (hk : Nat.ble (k + 1) j = true) (hcs : cs = tbl.map (·.1)) (nf : nfB m.S.K m.S cs cs = true) : CmpT X m .Eq (dTeq tbl) := by
  refine ⟨_, op_teq B T hk fun c mf hc => ?_, r_teq⟩
  have hm : c ∈ cs := by rw [hcs]; exact List.mem_map.mpr ⟨(c, mf), mem_of_lookup hc, rfl⟩
  unfold nfB at nf
  have q := List.all_eq_true.mp nf c hm
  simp only [Bool.and_eq_true, List.all_eq_true] at q
  exact q.2 c hm
/-! ### a list times an int -/
def dRep : D → D → M D
  | .lst l, .int k => if decide (-(2 ^ 63) ≤ k) && decide (k < 2 ^ 63) && szOk (l.length * k.toNat) then M.ret (.lst (List.replicate k.toNat l).flatten) else M.stuck
  | _, _ => M.stuck
theorem reps_rep {S : Sg} {G : Hp} {pen : Addr} {vs : List V} {ds : List D} (r : Reps S G pen vs ds) : ∀ n : Nat, Reps S G pen (List.replicate n vs).flatten (List.replicate n ds).flatten
  | 0 => .nil
  | n + 1 => by
    rw [List.replicate_succ, List.replicate_succ, List.flatten_cons, List.flatten_cons]
    exact r.append (reps_rep r n)
theorem r_rep : R2Ok m rRep dRep := by
  rintro σ x y H Q ⟨G, p, δ, ⟨⟨u, dx⟩, dy⟩, w, sl, ⟨⟨_, rx⟩, ry⟩, h⟩
  have rx : Rep m.S G m.pen x dx := rx
  have ry : Rep m.S G m.pen y dy := ry
  cases dx with
  | lst l =>
    cases dy with
    | int kk =>
      dsimp only [dRep] at h
      split at h
      · rename_i hz
        simp only [Bool.and_eq_true, decide_eq_true_eq] at hz
        cases rx with
        | lst ha rr =>
          cases ry
          have hs := szOk_le hz.2
          refine ⟨_, kk, _, rfl, rfl, w.sub _ _ ha, hz.1.1, hz.1.2, by rw [rr.length]; exact hs, fin_new w h fun c hc => .lst upd_same (reps_rep (rr.mono (Sub.alloc (w.gfree hc))) _)⟩
      · exact h.elim
    | _ => exact h.elim
  | _ => exact h.elim
theorem me_rep {a b : Expr} {ea eb : EX} {pos : Pos} (ha : PE X a (tE m ea)) (hb : PE X b (tE m eb)) : PE X (.BinOp a .Mult b pos) (tE m (mBin dRep ea eb)) := me_op op_rep r_rep ha hb
end
end ME

/-! Slices of tuples; a walk over a list, a tuple or an own object; packed facts of defs with a star; defs that hand a lambda on. -/
namespace ME
open PySem PySem.Spec PyProof.Rows L2
def dSlA : D → Option Int → Option Int → M D
  | .tup l, lo, hi => M.ret (.tup (cutD l lo hi))
  | x, lo, hi => dSl x lo hi
def mSlA (eo : EX) (lo hi : Option EX) : EX := fun δ => (eo δ).bnd fun x => (mPart lo δ).bnd fun l => (mPart hi δ).bnd fun u => dSlA x l u
theorem cut_whole {l : List D} {lo hi : Option Int} (h : HT.sIx l.length 0 lo = 0 ∧ HT.sIx l.length l.length hi = l.length) : cutD l lo hi = l := by
  unfold cutD
  rw [h.1, h.2]
  simp
section
variable {X : Cx} {m : Am} {e : Expr} {eo : EX}
theorem me_slA {lo hi : Option Expr} {el eh : Option EX} {p2 pos : Pos} (hK : X.K = m.S.K) (ha : PE X e (tE m eo)) (hl : PO X lo (tO m el)) (hh : PO X hi (tO m eh)) : PE X (.Subscript e (.Slice lo hi none p2) pos) (tE m (mSlA eo el eh)) := by
  refine PE.imp (pe_slice (L2.SlR.or (L2.SlR.or sl_str sl_list) sl_tupA) ha hl hh) fun σ H Q h => ?_
  refine (tY_bind (R1 := m.rE) r0_mono h).imp fun x H1 h2 => ?_
  refine (tY_bind (R1 := rO) (rP_mono r0_mono (rE_mono m)) h2).imp fun l H2 h3 => ?_
  refine (tY_bind (R1 := rO) (rP_mono (rP_mono r0_mono (rE_mono m)) rO_mono) h3).imp fun u H3 h4 => ?_
  obtain ⟨G, p, δ, ⟨⟨⟨_, d⟩, l'⟩, u'⟩, w, sl, ⟨⟨⟨_, r⟩, e1⟩, e2⟩, h5⟩ := h4
  have r : Rep m.S G m.pen x d := r
  have e1 : l = l' := e1
  have e2 : u = u' := e2
  subst e1 e2
  cases id r with
  | str z =>
    dsimp only [dSlA, dSl] at h5
    split at h5
    · rename_i hz
      unfold szOk at hz
      exact .inl (.inl ⟨z, rfl, by rw [sizeLine_eq]; exact of_decide_eq_true hz, fin_same w (.str _) h5⟩)
    · exact h5.elim
  | @lst a vs ds hq rr =>
    exact .inl (.inr ⟨a, vs, rfl, .inl (.of (w.sub _ _ hq)), fin_new (m := m) w h5 fun b hb => .lst upd_same ((reps_cut rr _ _).mono (Sub.alloc (w.gfree hb)))⟩)
  | @tup a vs ds hq rr =>
    refine .inr ⟨a, vs, rfl, by rw [hK]; exact w.sub.sqt hq, fun hw => ?_, fun _ => fin_new (m := m) w h5 fun b hb => .tup (.of upd_same) ((reps_cut rr _ _).mono (Sub.alloc (w.gfree hb)))⟩
    have hw' : HT.sIx ds.length 0 l = 0 ∧ HT.sIx ds.length ds.length u = ds.length := by rw [← rr.length]; exact hw
    have h6 : Post m.S m.pen m.rE G H3 Q (fun c d H' => m.W c d σ H') (M.ret (.tup ds) p) := by
      have h7 := h5
      dsimp only [dSlA] at h7
      rw [cut_whole hw'] at h7
      exact h7
    exact fin_same w r h6
  | _ => exact h5.elim
end
/-! ### a walk over any of these -/
def iAny (tbl : List (Nat × Nat)) (e : EX) : DS → M (List D) := fun δ => (e δ).bnd fun d => match d with
  | .lst l => M.ret l
  | .tup l => M.ret l
  | .obj c fs => match tbl.lookup c with
    | some kf => match fs[kf]? with
      | some (.tup l) => M.ret l
      | _ => M.stuck
    | none => M.stuck
  | _ => M.stuck
section
variable {X : Cx} {m : Am} {j k : Nat} {tg e : Expr} {ea : EX}
theorem mi_any {tbl : List (Nat × Nat)} (B : Bx X m j) (T : ∀ c kf, tbl.lookup c = some kf → IterT X.prog X.w X.K X.mg X.base m.S k c kf) (hk : Nat.ble k j = true) (h : PE X e (tE m ea)) : PI X tg e (tI m (iAny tbl ea)) := by
  refine ⟨fun pins s σ H R I h0 => ?_⟩
  refine thn (h.run pins s σ H _ I (tY_bind (R1 := m.rE) r0_mono h0)) fun u s1 ⟨x, H1, I1, rx, q1⟩ => ?_
  obtain ⟨G, p, δ, ⟨_, d⟩, w, sl, ⟨_, r⟩, h5⟩ := q1
  have r : Rep m.S G m.pen x d := r
  cases r with
  | @lst a vs ds hl rr =>
    cases (show u = Value.ref a from rx)
    obtain ⟨its, rv, pl, hz⟩ := I1.list (.inl (.of (w.sub _ _ hl)))
    refine wpAny_pyIter_list pl.isList ?_
    refine ⟨s1.heap.objs.size, [s1.heap.objs.size], _, Itl X.K a, H1, rfl, I1.kept (t' := s1.toks) fun b o e => Heap.get?_push_of_some _ e, turn_list a _, ⟨_, Heap.get?_push_size _ rfl, rfl, rfl⟩, fun b hb => ?_, ?_⟩
    · have e : b = s1.heap.objs.size := by simpa using hb
      subst e
      exact I1.fpOk (Nat.le_refl _) (I1.hok.fresh (Nat.le_refl _))
    · rw [B.hK]
      refine h5 _ G H1 Ex.refl w ?_
      intro G' H' p' s' w'
      have hl : SqL m.S.K H' a vs := .of (w'.sub _ _ (s' _ _ hl))
      refine ⟨fun i d e => ?_, fun i hi => ⟨vs, hl, by rw [rr.length]; exact hi⟩⟩
      obtain ⟨v, ev, rv⟩ := rr.get e
      refine ⟨⟨vs, v, hl, ev⟩, fun y H2 ⟨e2, q⟩ => ?_⟩
      subst e2
      have : some v = some y := ev.symm.trans (q vs hl)
      cases this
      exact ⟨G', Ex.refl, w', rv.mono s'⟩
  | @tup a vs ds hl rr =>
    cases (show u = Value.ref a from rx)
    have hq : SqT X.K H1 a vs := by rw [B.hK]; exact w.sub.sqt hl
    obtain ⟨its, rv, pl, hz⟩ := I1.tuple hq
    refine wpAny_pyIter_tuple (show s1.heap.IsTuple a its.toArray from pl) ?_
    refine ⟨s1.heap.objs.size, [s1.heap.objs.size], _, Itt X.K a, H1, rfl, I1.kept (t' := s1.toks) fun b o e => Heap.get?_push_of_some _ e, turn_tuple a _, ⟨_, Heap.get?_push_size _ rfl, rfl, rfl⟩, fun b hb => ?_, ?_⟩
    · have e : b = s1.heap.objs.size := by simpa using hb
      subst e
      exact I1.fpOk (Nat.le_refl _) (I1.hok.fresh (Nat.le_refl _))
    · rw [B.hK]
      refine h5 _ G H1 Ex.refl w ?_
      intro G' H' p' s' w'
      have hl : SqT m.S.K H' a vs := w'.sub.sqt (s'.sqt hl)
      refine ⟨fun i d e => ?_, fun i hi => ⟨vs, hl, by rw [rr.length]; exact hi⟩⟩
      obtain ⟨v, ev, rv⟩ := rr.get e
      refine ⟨⟨vs, v, hl, ev⟩, fun y H2 ⟨e2, q⟩ => ?_⟩
      subst e2
      have : some v = some y := ev.symm.trans (q vs hl)
      cases this
      exact ⟨G', Ex.refl, w', rv.mono s'⟩
  | @obj a dx c vs ds ha hl rr =>
    cases (show u = Value.ref a from rx)
    dsimp only at h5
    cases el : tbl.lookup c with
    | none => rw [el] at h5; exact h5.elim
    | some kf =>
      rw [el] at h5
      dsimp only at h5
      cases ek : ds[kf]? with
      | none => rw [ek] at h5; exact h5.elim
      | some dk =>
        rw [ek] at h5
        obtain ⟨v, ev, rv⟩ := rr.get ek
        cases rv with
        | @tup t ts l ht rt =>
          have hd : ∀ (δ' : DS), mC (.obj c ds) δ' = M.ret (.obj c ds) := fun _ => rfl
          have hr : Rep m.S G m.pen (.ref a) (.obj c ds) := .obj ha hl rr
          obtain ⟨fi, F, hit, hfn⟩ := T c kf el
          obtain ⟨mA, O, _⟩ := ins_get I1.hok (w.sub _ _ ha)
          obtain ⟨od, J, _⟩ := O.look
          obtain ⟨m0, hF⟩ := I1.fr
          have hqt : SqT X.K H1 t ts := by rw [B.hK]; exact w.sub.sqt ht
          refine PySem.W.owit_iter hF I1.ok.mod.kin J hit hfn ?_
          refine wpAny_call (codeAny_mono (F X.A X.stack s1 H1 a dx t vs ts (B.hr.mono (Nat.le_of_ble_eq_true hk)) I1.env0 (w.sub _ _ ha) hl ev hqt) fun r s' hq' => ?_)
          cases r with
          | error er =>
            obtain ⟨_, _, _, _, _, _, _, _, _, _, _, _, z⟩ := hq'
            exact z.elim
          | ok fl =>
            cases fl with
            | next => exact False.elim hq'
            | brk => exact False.elim hq'
            | cont => exact False.elim hq'
            | ret uu =>
              obtain ⟨v, H', I2, rv, it, e1, e2, e3, e4⟩ := I1.after hq'
              subst e1 e4
              cases (show uu = Value.ref it from rv)
              have eo := itT_get I2 upd_same
              refine wpAny_specialOf (T := "tuple_iterator") ⟨_, eo, rfl⟩ PyProof.Rows.slot_tupleiter_next.lookup ?_
              have hdr : ItX.dropH (upd H1 it (ItT t it)) it = H1 := ItX.dropH_upd e3
              have I3 := ItX.inv_drop I2 (a := it) (φ := fun h => h.get? it = some (itObjT t)) upd_same
              rw [hdr] at I3
              have fp := ItX.inv_fp I2 (a := it) upd_same (Nat.le_trans I1.sz e2)
              rw [hdr] at fp
              refine ⟨it, [it], _, _, H1, rfl, I3, turn_tuple t it, ⟨_, eo, rfl, rfl⟩, fun b hb => ?_, ?_⟩
              · have e : b = it := by simpa using hb
                rw [e]; exact fp
              · refine h5 _ G H1 Ex.refl w ?_
                rw [B.hK]
                intro G' H' p' s' w'
                have hl : SqT m.S.K H' t ts := w'.sub.sqt (s'.sqt ht)
                refine ⟨fun i d e => ?_, fun i hi => ⟨ts, hl, by rw [rt.length]; exact hi⟩⟩
                obtain ⟨v, ev, rv⟩ := rt.get e
                refine ⟨⟨ts, v, hl, ev⟩, fun y H2 ⟨e2, q⟩ => ?_⟩
                subst e2
                have : some v = some y := ev.symm.trans (q ts hl)
                cases this
                exact ⟨G', Ex.refl, w', rv.mono s'⟩
        | _ => exact h5.elim
  | _ => exact h5.elim
end
/-! ### packed facts -/
section
variable {P : Program} {w : World} {K : PySem.W.Frag} {mg : Str → Option Value} {base : Heap} {S : Sg} {k c : Nat} {x : Str}
/-- the __init__(self, *v) of the class number c computes the fields by mi -/
def InV (P : Program) (w : World) (K : PySem.W.Frag) (mg : Str → Option Value) (base : Heap) (S : Sg) (k c : Nat) (mi : List D → M (List D)) : Prop :=
  ∃ f, FnV P w K mg base k f 1 (spO S c mi) ∧ PySem.W.findIn K (.ref (S.ca c)) "__init__" = some (some (.ref f)) ∧ PySem.W.isFn K (.ref f) = true
theorem InV.t {mi : List D → M (List D)} (F : InV P w K mg base S k c mi) (hm : mg x = some (.ref (S.ca c))) (mk : (PySem.W.makesIn K (S.ca c) && PySem.W.keepIn K (.ref (S.ca c))) = true) : NewV P w K mg base S k c x mi := by
  obtain ⟨f, h1, h3, h4⟩ := F
  simp only [Bool.and_eq_true] at mk
  exact ⟨f, ⟨mk.1, h3, h4, mk.2⟩, h1, hm⟩
end
theorem bdv0 {fd : FuncData} {pv : Str} (h0 : bindArgs fd ⟨[], []⟩ = (newTuple [] >>= fun t => pure [(pv, t)])) (h1 : ∀ r rs, bindArgs fd ⟨r :: rs, []⟩ = (newTuple (r :: rs) >>= fun t => pure [(pv, t)])) : BdV fd [] pv :=
  bind_star0 (B := fun us => bindArgs fd ⟨us, []⟩) h0 h1
theorem bdv1 {fd : FuncData} {p1 pv : Str} (h0 : ∀ a, bindArgs fd ⟨[a], []⟩ = (newTuple [] >>= fun t => pure [(p1, a), (pv, t)])) (h1 : ∀ a r rs, bindArgs fd ⟨a :: r :: rs, []⟩ = (newTuple (r :: rs) >>= fun t => pure [(p1, a), (pv, t)])) : BdV fd [p1] pv :=
  StX.bind_star1 (B := fun us => bindArgs fd ⟨us, []⟩) h0 h1
/-! ### a def that hands a lambda on -/
def fwdR (h : M D → M D) (n i : Nat) (R : SX) (act : M D) : M D := fun p => match h act p with
  | none => none
  | some (.ok d, p') => outOf (R (none :: (List.replicate (n - 1) none).set i (some (.d d))) p')
  | some (.ex c fs, p') => some (.ex c fs, p')
theorem fwd_u {h : M D → M D} {n i : Nat} {R : SX} (f : Nat) (act : M D) (p : Pn) : outOf (sSeq (sSet (i + 1) (mHrd h f act)) (sDrop 0 R) (dsOf n [.clo f]) p) = fwdR h n i R act p := by
  have e : dsOf n [.clo f] = some (.d (.clo f)) :: List.replicate (n - 1) none := rfl
  rw [e]
  unfold sSeq
  dsimp only [sSet, sBnd, fwdR]
  rw [mHrd_at]
  rcases h act p with _ | ⟨o, p1⟩
  · rfl
  · cases o with
    | ok d => rfl
    | ex c fs => rfl
end ME

namespace ME
open PySem PySem.Spec L2

/-! ### lists that are being made: read, popped, made beside others -/
def mLenM (i : Nat) : EX := fun δ => match δ[i]? with
  | some (some (.ml xs)) => M.ret (.int xs.length)
  | _ => M.stuck
def mIxM (i : Nat) (e : EX) : EX := fun δ => match δ[i]? with
  | some (some (.ml xs)) => (e δ).bnd fun d => match d with
    | .int k => M.opt (atI xs k)
    | _ => M.stuck
  | _ => M.stuck
/-- x.append(y.pop(e)) -/
def sAppPop (i j : Nat) (e : EX) : SX := fun δ p => match δ[i]? with
  | some (some (.ml xs)) => match δ[j]? with
    | some (some (.ml ys)) => sBnd e (fun d δ p => match d with
      | .int k => match seqIndex? k ys.length with
        | some n => match ys[n]? with
          | some y => if decide (-(2 ^ 63) ≤ k) && decide (k < 2 ^ 63) && decide (xs.length < 16777216) then some (.nx ((δ.set j (some (.ml (ys.eraseIdx n)))).set i (some (.ml (xs ++ [y])))), p) else none
          | none => none
        | none => none
      | _ => none) δ p
    | _ => none
  | _ => none
/-- a list that nobody else holds -/
def cpD (e : EX) : AX := fun δ => (e δ).bnd fun d => match d with
  | .lst l => M.ret l
  | .tup l => M.ret l
  | _ => M.stuck
def sNewF (i : Nat) (f : AX) : SX := sBnd f fun ds δ p => if szOk ds.length then some (.nx (δ.set i (some (.ml ds))), p) else none
def sP2EF (i j : Nat) (e : EX) (f : AX) : SX := sBnd e fun d => sBnd f fun ds δ p => if szOk ds.length then some (.nx ((δ.set i (some (.d d))).set j (some (.ml ds))), p) else none
def sP2FE (i j : Nat) (f : AX) (e : EX) : SX := sBnd f fun ds δ p => if szOk ds.length then sBnd e (fun d δ p => some (.nx ((δ.set i (some (.ml ds))).set j (some (.d d))), p)) δ p else none
def sP2FF (i j : Nat) (f g : AX) : SX := sBnd f fun ds δ p => if szOk ds.length then sBnd g (fun es δ p => if szOk es.length then some (.nx ((δ.set i (some (.ml ds))).set j (some (.ml es))), p) else none) δ p else none
def sP3EFF (i j k : Nat) (e : EX) (f g : AX) : SX := sBnd e fun d => sBnd f fun ds δ p => if szOk ds.length then sBnd g (fun es δ p => if szOk es.length then some (.nx (((δ.set i (some (.d d))).set j (some (.ml ds))).set k (some (.ml es))), p) else none) δ p else none
def sP3EEF (i j k : Nat) (e e' : EX) (g : AX) : SX := sBnd e fun d => sBnd e' fun d' => sBnd g fun es δ p => if szOk es.length then some (.nx (((δ.set i (some (.d d))).set j (some (.d d'))).set k (some (.ml es))), p) else none
def tF (m : Am) (f : AX) : TE := fun σ H Q => tY m r0 m.rA () (fun _ => f) σ H (fun vs H1 => vs.length ≤ sizeLine ∧ ∀ a, H1 a = none → Q (.ref a) (upd H1 a (.lst vs)))
section
variable {S : Sg} {pen : Addr} {B G H : Hp} {σ : St} {δ : DS} {i : Nat}
theorem Reps.eraseIdx : ∀ {vs : List V} {ds : List D} (n : Nat), Reps S G pen vs ds → Reps S G pen (vs.eraseIdx n) (ds.eraseIdx n)
  | _, _, _, .nil => .nil
  | _, _, 0, .cons _ r => r
  | _, _, n + 1, .cons h r => .cons h (Reps.eraseIdx n r)
/-- the list of slot i is written -/
theorem SlR.writeMl {l : Addr} {xs xs' : List D} {vs' : List V} (sl : SlR S pen B G H σ δ) (ei : δ[i]? = some (some (.ml xs))) (e1 : σ[i]? = some (some (.ref l))) (r : Reps S G pen vs' xs') (gl : G l = none) (bl : B l = none) (hp : l ≠ pen) : SlR S pen B G (upd H l (.lst vs')) σ (δ.set i (some (.ml xs'))) := by
  have s2 := (sl.other (o := .lst vs') ei (by intro _ z; cases z) e1).setMl (i := i) (l := l) upd_same r gl bl hp fun j s hj e n z => by
    rcases set_old e with ⟨_, q, _⟩ | ⟨hj', e'⟩
    · cases q
    · exact hj (sl.inj j i s _ l e' ei n (by intro _ z; cases z) z e1)
  rw [set_same, set_id e1] at s2
  exact s2
theorem Ex.writeB {G0 H1 : Hp} {l : Addr} {o : HO} {G1 : Hp} (x : Ex pen G0 B G1 H1) (hb : B l = none) : Ex pen G0 B G1 (upd H1 l o) := by
  refine ⟨x.sub, fun b o hb' ht e => ?_, fun b e => ?_, x.un⟩
  · have : b ≠ l := fun z => by rw [z, hb] at e; cases e
    rw [upd_ne this]; exact x.keep b o hb' ht e
  · by_cases z : b = l
    · rw [z]; exact hb
    · rw [upd_ne z] at e; exact x.dom b e
/-- a new list into slot i -/
theorem SlR.newMl {l : Addr} {vs : List V} {xs : List D} {p : Pn} (sl : SlR S pen B G H σ δ) (w : Wd S pen G H p) (r : Reps S G pen vs xs) (h : H l = none) (hb : B l = none) : SlR S pen B G (upd H l (.lst vs)) (σ.set i (some (.ref l))) (δ.set i (some (.ml xs))) := by
  refine (sl.ex (Ex.allocM h)).setMl upd_same r (w.gfree h) hb (w.ne h) fun j s hj e n z => ?_
  obtain ⟨a, o, h1, h2, _⟩ := sl.at e n
  rw [h1] at z
  cases z
  rw [h] at h2; cases h2
end
section
variable {X : Cx} {m : Am} {pos : Pos} {i j k : Nat} {x y z : Str} {p1 p2 p3 : Pos}
theorem tE_step {α β : Type} {R : Rl β α} {f : DS → M α} {kk : α → M D} {Q : VK} {σ : St} {G H : Hp} {p : Pn} {δ : DS} (w : Wd m.S m.pen G H p) (sl : SlR m.S m.pen m.B G H σ δ) (h : Post m.S m.pen m.rE G H Q (fun c d H' => m.W c d σ H') (((f δ).bnd kk) p)) :
    tY m r0 R () (fun _ => f) σ H (fun b H1 => ∃ a G1 p1, Wd m.S m.pen G1 H1 p1 ∧ Ex m.pen G H G1 H1 ∧ R G1 b a ∧ Post m.S m.pen m.rE G1 H1 Q (fun c d H' => m.W c d σ H') (kk a p1)) := by
  refine ⟨G, p, δ, (), w, sl, trivial, ?_⟩
  dsimp only [M.bnd] at h ⊢
  rcases he : f δ p with _ | ⟨o, p1⟩
  · rw [he] at h; exact h
  · rw [he] at h
    cases o with
    | ok a => exact fun v G' H' x' w' r => ⟨a, G', p1, w', x', r, Post.ex x' h⟩
    | ex c fs => exact fun d G' H' x' w' r => h d G' H' x' w' r
theorem me_lenM {q : Nat} (B : Bx X m q) {pn : Pos} (hN : X.N[i]? = some x) (hv : Vis X.env.scope x) (hg : Gl X "len") (hm : X.mg "len" = none) (hd : (x == ("__debug__" : Str)) = false := by decide) (hcd : (x == ("__classdict__" : Str)) = false := by decide)
    (he : starEach [.Name x p1] X.env = (false, eval (.Name x p1) X.env) :: starEach [] X.env := by rfl) (hpl : (backTo pos (starEach [] X.env)).any (·.1) = false := by rfl) : PE X (.Call (.Name "len" pn) [.Name x p1] [] pos) (tE m (mLenM i)) := by
  refine PE.imp (pe_callB call_lenM hg hm (by kernel_rfl) (pa_cons (pe_var hN hv hd hcd) pa_nil he) (by decide) (by decide) he hpl) fun σ H Q h => ?_
  obtain ⟨G, p, δ, _, w, sl, _, h5⟩ := h
  dsimp only [mLenM] at h5
  cases ei : δ[i]? with
  | none => rw [ei] at h5; exact h5.elim
  | some o => cases o with
    | none => rw [ei] at h5; exact h5.elim
    | some s => cases s with
      | ml xs =>
        rw [ei] at h5
        obtain ⟨l, vs, e1, e2, r, e4, e5, e6⟩ := sl.ml i xs ei
        refine ⟨.ref l, e1, .inl ⟨l, vs, rfl, .inl (.of e2), ?_⟩⟩
        rw [r.length]
        exact fin_same w (.int _) h5
      | _ => rw [ei] at h5; exact h5.elim
theorem me_ixM {b : Expr} {eb : EX} (hK : X.K = m.S.K) (hN : X.N[i]? = some x) (hv : Vis X.env.scope x) (hb : PE X b (tE m eb)) (hs : PlainIx b) (hd : (x == ("__debug__" : Str)) = false := by decide) (hcd : (x == ("__classdict__" : Str)) = false := by decide) : PE X (.Subscript (.Name x p1) b pos) (tE m (mIxM i eb)) := by
  refine PE.imp (pe_ix ix_list (pe_var hN hv hd hcd) hb hs) fun σ H Q h => ?_
  obtain ⟨G, p, δ, _, w, sl, _, h5⟩ := h
  dsimp only [mIxM] at h5
  cases ei : δ[i]? with
  | none => rw [ei] at h5; exact h5.elim
  | some o => cases o with
    | none => rw [ei] at h5; exact h5.elim
    | some s => cases s with
      | ml xs =>
        rw [ei] at h5
        obtain ⟨l, vs, e1, e2, r, e4, e5, e6⟩ := sl.ml i xs ei
        refine ⟨.ref l, e1, ?_⟩
        refine (tE_step (R := m.rE) w sl h5).imp fun v H1 ⟨d, G1, p1, w1, x1, rv0, q⟩ => ?_
        have rv : Rep m.S G1 m.pen v d := rv0
        clear rv0
        cases rv with
        | int kk =>
          dsimp only at q
          cases qq : atI xs kk with
          | none => rw [qq] at q; exact q.elim
          | some d =>
            rw [qq] at q
            obtain ⟨u, ev, ru⟩ := reps_at (r.mono x1.sub) qq
            exact ⟨l, vs, kk, u, rfl, rfl, .of (x1.keep l _ e6 (by intro _ z; cases z) e2), ev, fin_same w1 ru q⟩
        | _ => exact q.elim
      | _ => rw [ei] at h5; exact h5.elim
theorem ms_appPop {e : Expr} {ea : EX} {q1 q2 q3 : Pos} (hN : X.N[i]? = some x) (hv : Vis X.env.scope x) (hNy : X.N[j]? = some y) (hvy : Vis X.env.scope y) (hij : i ≠ j) (hK : X.K = m.S.K) (he : PE X e (tE m ea))
    (hd : (x == ("__debug__" : Str)) = false := by decide) (hcd : (x == ("__classdict__" : Str)) = false := by decide) (hdy : (y == ("__debug__" : Str)) = false := by decide) (hcdy : (y == ("__classdict__" : Str)) = false := by decide)
    (hs : swapsWith (.Call (.Attribute (.Name x p1) "append" p2) [.Call (.Attribute (.Name y q1) "pop" q2) [e] [] q3] [] p3) none pos.line X.env = pure false := by rfl)
    (hbase : attributeBase (.Name x p1) "append" X.env (eval (.Name x p1) X.env) = eval (.Name x p1) X.env := by rfl)
    (hbasey : attributeBase (.Name y q1) "pop" X.env (eval (.Name y q1) X.env) = eval (.Name y q1) X.env := by rfl)
    (hfew : ((backTo p3 (starEach [.Call (.Attribute (.Name y q1) "pop" q2) [e] [] q3] X.env)).all (fun x => !x.1) && (backToKw p3 (keywordEach [] X.env)).all (fun x => x.1.isSome)
      && decide (([.Call (.Attribute (.Name y q1) "pop" q2) [e] [] q3] : List Expr).length + ([] : List Keyword).length + (if ([] : List Keyword).isEmpty then 0 else 1) < 30)) = true := by rfl)
    (hline : (p2.endLine == p3.line) = true := by rfl) (hst : starEach [.Call (.Attribute (.Name y q1) "pop" q2) [e] [] q3] X.env = (false, eval (.Call (.Attribute (.Name y q1) "pop" q2) [e] [] q3) X.env) :: starEach [] X.env := by rfl) (hplain : (backTo p3 (starEach [] X.env)).any (·.1) = false := by rfl)
    (hfewy : ((backTo q3 (starEach [e] X.env)).all (fun x => !x.1) && (backToKw q3 (keywordEach [] X.env)).all (fun x => x.1.isSome)
      && decide ([e].length + ([] : List Keyword).length + (if ([] : List Keyword).isEmpty then 0 else 1) < 30)) = true := by rfl)
    (hliney : (q2.endLine == q3.line) = true := by rfl) (hsty : starEach [e] X.env = (false, eval e X.env) :: starEach [] X.env := by rfl) (hplainy : (backTo q3 (starEach [] X.env)).any (·.1) = false := by rfl) :
    PS X (.Expr (.Call (.Attribute (.Name x p1) "append" p2) [.Call (.Attribute (.Name y q1) "pop" q2) [e] [] q3] [] p3) pos) (tS m (sAppPop i j ea)) := by
  have inner := pe_bm (cpos := q3) (apos := q2) PySem.F.plainAttrs_list PySem.F.slot_list_pop PySem.F.type_list_pop mt_popAt (pe_var (pos := q1) hNy hvy hdy hcdy) (pa_cons he pa_nil hsty) hbasey hfewy hliney hsty hplainy
  have base := ps_expr (pos := pos) (pe_bm (cpos := p3) (apos := p2) PySem.F.plainAttrs_list PySem.F.slot_list_append PySem.F.type_list_append mt_append (pe_var (pos := p1) hN hv hd hcd) (pa_cons inner pa_nil hst) hbase hfew hline hst hplain) hs
  refine PS.imp base fun K σ H h => ?_
  obtain ⟨G, p, δ, w, x, sl, h⟩ := h
  dsimp only [sAppPop] at h
  split at h
  · rename_i xs ei
    split at h
    · rename_i ys ej
      obtain ⟨l, vs, e1, e2, r, e4, e5, e6⟩ := sl.ml i xs ei
      obtain ⟨a, us, f1, f2, ru, f4, f5, f6⟩ := sl.ml j ys ej
      have hne : l ≠ a := fun z => by
        subst z
        exact hij (sl.inj i j _ _ l ei ej (by intro _ z; cases z) (by intro _ z; cases z) e1 f1)
      refine ⟨.ref l, e1, .inl ⟨rfl, vs, .of e2⟩, ?_⟩
      refine ⟨.ref a, f1, .inl ⟨rfl, us, .of f2⟩, ?_⟩
      refine (tS_step (R := m.rE) w x sl h).imp fun v H1 ⟨d, G1, p1, w1, x1, rv0, q⟩ => ?_
      have rv : Rep m.S G1 m.pen v d := rv0
      clear rv0
      split at q
      · rename_i kk
        cases rv
        split at q
        · rename_i n hn
          split at q
          · rename_i dy hy
            split at q
            · rename_i hz
              simp only [Bool.and_eq_true, decide_eq_true_eq] at hz
              have hl : H1 l = some (.lst vs) := x1.keep l _ e6 (by intro _ z; cases z) e2
              have ha : H1 a = some (.lst us) := x1.keep a _ f6 (by intro _ z; cases z) f2
              have gl : G1 l = none := x1.un l e4 (by rw [e2]; simp)
              have ga : G1 a = none := x1.un a f4 (by rw [f2]; simp)
              have r1 := r.mono x1.sub
              have ru1 := ru.mono x1.sub
              obtain ⟨yv, hyv, ry⟩ := ru1.get hy
              refine ⟨a, us, kk, n, yv, rfl, rfl, ha, hz.1.1, hz.1.2, by rw [ru.length]; exact hn, hyv, ?_⟩
              refine ⟨l, vs, yv, rfl, rfl, by rw [upd_ne hne]; exact hl, by rw [r.length, sizeLine_eq]; exact hz.2, ?_⟩
              have w2 : Wd m.S m.pen G1 (upd H1 a (.lst (us.eraseIdx n))) p1 := w1.writeM ha (by intro _ z; cases z) (fun c q => lst_code c q) ga f6
              have w3 : Wd m.S m.pen G1 (upd (upd H1 a (.lst (us.eraseIdx n))) l (.lst (vs ++ [yv]))) p1 := w2.writeM (u := .lst vs) (by rw [upd_ne hne]; exact hl) (by intro _ z; cases z) (fun c q => lst_code c q) gl e6
              have x3 := ((x.trans x1).writeB (o := .lst (us.eraseIdx n)) f5).writeB (o := .lst (vs ++ [yv])) e5
              have s2 := (sl.ex x1).writeMl ej f1 (ru1.eraseIdx n) ga f5 f6
              have s3 := s2.writeMl (i := i) (xs := xs) (by rw [List.getElem?_set_ne (Ne.symm hij)]; exact ei) e1 (r1.append (.cons ry .nil)) gl e5 e6
              exact q σ G1 _ (Sub.refl _) w3 x3 s3
            · exact q.elim
          · exact q.elim
        · exact q.elim
      · exact q.elim
    · exact h.elim
  · exact h.elim
/-! ### fresh lists -/
theorem tf_lst {es : List Expr} {ra : AX} (h : PA X es (tAs m ra)) : PE X (.List es pos) (tF m ra) := PE.imp (pe_lst h) fun σ H Q h => h
theorem tf_cp {e : Expr} {ea : EX} {q : Nat} {pn : Pos} (B : Bx X m q) (hg : Gl X "list") (hm : X.mg "list" = none) (h : PE X e (tE m ea)) (he : starEach [e] X.env = (false, eval e X.env) :: starEach [] X.env := by rfl) (hpl : (backTo pos (starEach [] X.env)).any (·.1) = false := by rfl) :
    PE X (.Call (.Name "list" pn) [e] [] pos) (tF m (cpD ea)) := by
  refine PE.imp (pe_callTy call_list_of hg hm (by kernel_rfl) (pa_cons h pa_nil he) (by decide) (by decide) he hpl) fun σ H Q h => ?_
  have h : tY m r0 m.rA () (fun _ δ => (ea δ).bnd fun d => match d with
    | .lst l => M.ret l
    | .tup l => M.ret l
    | _ => M.stuck) σ H (fun vs H1 => vs.length ≤ sizeLine ∧ ∀ a, H1 a = none → Q (.ref a) (upd H1 a (.lst vs))) := h
  refine (tY_bind (R1 := m.rE) r0_mono h).imp fun v H1 h2 => ?_
  obtain ⟨G, p, δ, ⟨_, d⟩, w, sl, ⟨_, r⟩, h5⟩ := h2
  have r : Rep m.S G m.pen v d := r
  rw [B.hK]
  cases r with
  | @lst a vs ds ha rr => exact ⟨a, vs, rfl, .inl (.of (w.sub _ _ ha)), (h5 vs G H1 Ex.refl w rr).2⟩
  | @tup a vs ds ha rr => exact ⟨a, vs, rfl, .inr (w.sub.sqt ha), (h5 vs G H1 Ex.refl w rr).2⟩
  | _ => exact h5.elim
theorem ms_newF {e : Expr} {f : AX} {pos' : Pos} (hN : X.N.Nodup) (hi : X.N[i]? = some x) (hx : Loc X.env.scope x) (h : PE X e (tF m f)) (hs : swapsWith e (some (.Name x pos')) pos.line X.env = pure false := by rfl) (hf : X.fn x = true ∨ X.env.scope.names.lookup x = some .local := by first | exact .inl rfl | exact .inr rfl | assumption) :
    PS X (.Assign [.Name x pos'] e pos) (tS m (sNewF i f)) := by
  refine PS.imp (ps_set hN hi hx h hs hf) fun K σ H h => ?_
  refine (tS_bind (R := m.rA) h).imp fun vs H1 ⟨ds, G, p, δ, w, x, sl, r, q⟩ => ?_
  have r : Reps m.S G m.pen vs ds := r
  split at q
  · rename_i hz
    refine ⟨by rw [r.length]; exact szOk_le hz, fun a ha => ?_⟩
    exact q _ G _ (Sub.refl _) (w.allocM ha) (x.trans (Ex.allocM ha)) (sl.newMl w r ha (x.dom a ha))
  · exact q.elim
section
variable {a b c : Expr} {px py pz pt : Pos} {kt k2 pt2 : _}
theorem ms_p2EF {ea : EX} {f : AX} (hc : X.calm = true) (hN : X.N.Nodup) (hi : X.N[i]? = some x) (hj : X.N[j]? = some y) (hij : i ≠ j) (hx : X.env.scope.names.lookup x = some .local) (hy : X.env.scope.names.lookup y = some .local) (ha : PE X a (tE m ea)) (hb : PE X b (tF m f))
    (hw : swappedStores [.Tuple [.Name x px, .Name y py] kt pt] (.Tuple [a, b] k2 pt2) X.env = pure (some [x, y])) (hs : swapsWithSole [.Tuple [.Name x px, .Name y py] kt pt] (.Tuple [a, b] k2 pt2) pos.line X.env = pure false := by rfl)
    (h1 : starEach [a, b] X.env = (false, eval a X.env) :: starEach [b] X.env := by rfl) (h2 : starEach [b] X.env = (false, eval b X.env) :: starEach [] X.env := by rfl) :
    PS X (.Assign [.Tuple [.Name x px, .Name y py] kt pt] (.Tuple [a, b] k2 pt2) pos) (tS m (sP2EF i j ea f)) := by
  refine PS.imp (ps_par hc hN hi hj hij hx hy (pa_cons ha (pa_cons hb pa_nil h2) h1) hw hs) fun K σ H h => ?_
  obtain ⟨G, p, δ, w, x, sl, h⟩ := h
  refine (tS_step (R := m.rE) w x sl h).imp fun v1 H1 ⟨d, G1, p1, w1, x1, rv, q⟩ => ?_
  have rv : Rep m.S G1 m.pen v1 d := rv
  refine (tS_step (R := m.rA) w1 (x.trans x1) (sl.ex x1) q).imp fun vs H2 ⟨ds, G2, p2, w2, x2, rs, q⟩ => ?_
  have rs : Reps m.S G2 m.pen vs ds := rs
  have x12 := (x.trans x1).trans x2
  split at q
  · rename_i hz
    refine ⟨by rw [rs.length]; exact szOk_le hz, fun l hl => ⟨v1, .ref l, rfl, ?_⟩⟩
    exact q _ G2 _ (Sub.refl _) (w2.allocM hl) (x12.trans (Ex.allocM hl)) ((((sl.ex x1).ex x2).set (rv.mono x2.sub)).newMl w2 rs hl (x12.dom l hl))
  · exact q.elim
theorem ms_p2FE {ea : EX} {f : AX} (hc : X.calm = true) (hN : X.N.Nodup) (hi : X.N[i]? = some x) (hj : X.N[j]? = some y) (hij : i ≠ j) (hx : X.env.scope.names.lookup x = some .local) (hy : X.env.scope.names.lookup y = some .local) (ha : PE X a (tF m f)) (hb : PE X b (tE m ea))
    (hw : swappedStores [.Tuple [.Name x px, .Name y py] kt pt] (.Tuple [a, b] k2 pt2) X.env = pure (some [x, y])) (hs : swapsWithSole [.Tuple [.Name x px, .Name y py] kt pt] (.Tuple [a, b] k2 pt2) pos.line X.env = pure false := by rfl)
    (h1 : starEach [a, b] X.env = (false, eval a X.env) :: starEach [b] X.env := by rfl) (h2 : starEach [b] X.env = (false, eval b X.env) :: starEach [] X.env := by rfl) :
    PS X (.Assign [.Tuple [.Name x px, .Name y py] kt pt] (.Tuple [a, b] k2 pt2) pos) (tS m (sP2FE i j f ea)) := by
  refine PS.imp (ps_par hc hN hi hj hij hx hy (pa_cons ha (pa_cons hb pa_nil h2) h1) hw hs) fun K σ H h => ?_
  obtain ⟨G, p, δ, w, x, sl, h⟩ := h
  refine (tS_step (R := m.rA) w x sl h).imp fun vs H1 ⟨ds, G1, p1, w1, x1, rs, q⟩ => ?_
  have rs : Reps m.S G1 m.pen vs ds := rs
  split at q
  · rename_i hz
    refine ⟨by rw [rs.length]; exact szOk_le hz, fun l hl => ?_⟩
    have xa : Ex m.pen G1 H1 G1 (upd H1 l (.lst vs)) := Ex.allocM hl
    have wa : Wd m.S m.pen G1 (upd H1 l (.lst vs)) p1 := w1.allocM hl
    refine (tS_step (R := m.rE) wa ((x.trans x1).trans xa) ((sl.ex x1).ex xa) q).imp fun v2 H2 ⟨d, G2, p2, w2, x2, rv, q⟩ => ?_
    have rv : Rep m.S G2 m.pen v2 d := rv
    refine ⟨.ref l, v2, rfl, ?_⟩
    have s0 : SlR m.S m.pen m.B G1 (upd H1 l (.lst vs)) (σ.set i (some (.ref l))) (δ.set i (some (.ml ds))) := (sl.ex x1).newMl w1 rs hl ((x.trans x1).dom l hl)
    exact q _ G2 _ (Sub.refl _) w2 (((x.trans x1).trans xa).trans x2) ((s0.ex x2).set rv)
  · exact q.elim
theorem ms_p2FF {f g : AX} (hc : X.calm = true) (hN : X.N.Nodup) (hi : X.N[i]? = some x) (hj : X.N[j]? = some y) (hij : i ≠ j) (hx : X.env.scope.names.lookup x = some .local) (hy : X.env.scope.names.lookup y = some .local) (ha : PE X a (tF m f)) (hb : PE X b (tF m g))
    (hw : swappedStores [.Tuple [.Name x px, .Name y py] kt pt] (.Tuple [a, b] k2 pt2) X.env = pure (some [x, y])) (hs : swapsWithSole [.Tuple [.Name x px, .Name y py] kt pt] (.Tuple [a, b] k2 pt2) pos.line X.env = pure false := by rfl)
    (h1 : starEach [a, b] X.env = (false, eval a X.env) :: starEach [b] X.env := by rfl) (h2 : starEach [b] X.env = (false, eval b X.env) :: starEach [] X.env := by rfl) :
    PS X (.Assign [.Tuple [.Name x px, .Name y py] kt pt] (.Tuple [a, b] k2 pt2) pos) (tS m (sP2FF i j f g)) := by
  refine PS.imp (ps_par hc hN hi hj hij hx hy (pa_cons ha (pa_cons hb pa_nil h2) h1) hw hs) fun K σ H h => ?_
  obtain ⟨G, p, δ, w, x, sl, h⟩ := h
  refine (tS_step (R := m.rA) w x sl h).imp fun vs H1 ⟨ds, G1, p1, w1, x1, rs, q⟩ => ?_
  have rs : Reps m.S G1 m.pen vs ds := rs
  split at q
  · rename_i hz
    refine ⟨by rw [rs.length]; exact szOk_le hz, fun l hl => ?_⟩
    have xa : Ex m.pen G1 H1 G1 (upd H1 l (.lst vs)) := Ex.allocM hl
    have wa : Wd m.S m.pen G1 (upd H1 l (.lst vs)) p1 := w1.allocM hl
    refine (tS_step (R := m.rA) wa ((x.trans x1).trans xa) ((sl.ex x1).ex xa) q).imp fun us H2 ⟨es, G2, p2, w2, x2, rv, q⟩ => ?_
    have rv : Reps m.S G2 m.pen us es := rv
    split at q
    · rename_i hz2
      refine ⟨by rw [rv.length]; exact szOk_le hz2, fun l2 hl2 => ⟨.ref l, .ref l2, rfl, ?_⟩⟩
      have s0 : SlR m.S m.pen m.B G1 (upd H1 l (.lst vs)) (σ.set i (some (.ref l))) (δ.set i (some (.ml ds))) := (sl.ex x1).newMl w1 rs hl ((x.trans x1).dom l hl)
      have xx := ((x.trans x1).trans xa).trans x2
      exact q _ G2 _ (Sub.refl _) (w2.allocM hl2) (xx.trans (Ex.allocM hl2)) ((s0.ex x2).newMl w2 rv hl2 (xx.dom l2 hl2))
    · exact q.elim
  · exact q.elim
theorem ms_p3EFF {ea : EX} {f g : AX} (hc : X.calm = true) (hN : X.N.Nodup) (hi : X.N[i]? = some x) (hj : X.N[j]? = some y) (hl : X.N[k]? = some z) (hij : i ≠ j) (hil : i ≠ k) (hjl : j ≠ k) (hx : X.env.scope.names.lookup x = some .local) (hy : X.env.scope.names.lookup y = some .local) (hz : X.env.scope.names.lookup z = some .local) (ha : PE X a (tE m ea)) (hb : PE X b (tF m f)) (hcc : PE X c (tF m g))
    (hw : swappedStores [.Tuple [.Name x px, .Name y py, .Name z pz] kt pt] (.Tuple [a, b, c] k2 pt2) X.env = pure (some [x, y, z])) (hs : swapsWithSole [.Tuple [.Name x px, .Name y py, .Name z pz] kt pt] (.Tuple [a, b, c] k2 pt2) pos.line X.env = pure false := by rfl)
    (h1 : starEach [a, b, c] X.env = (false, eval a X.env) :: starEach [b, c] X.env := by rfl) (h2 : starEach [b, c] X.env = (false, eval b X.env) :: starEach [c] X.env := by rfl) (h3 : starEach [c] X.env = (false, eval c X.env) :: starEach [] X.env := by rfl) :
    PS X (.Assign [.Tuple [.Name x px, .Name y py, .Name z pz] kt pt] (.Tuple [a, b, c] k2 pt2) pos) (tS m (sP3EFF i j k ea f g)) := by
  refine PS.imp (ps_par3 hc hN hi hj hl hij hil hjl hx hy hz (pa_cons ha (pa_cons hb (pa_cons hcc pa_nil h3) h2) h1) hw hs) fun K σ H h => ?_
  obtain ⟨G, p, δ, w, x, sl, h⟩ := h
  refine (tS_step (R := m.rE) w x sl h).imp fun v0 H0 ⟨d, G0, p0, w0, x0, r0, q⟩ => ?_
  have r0 : Rep m.S G0 m.pen v0 d := r0
  refine (tS_step (R := m.rA) w0 (x.trans x0) (sl.ex x0) q).imp fun vs H1 ⟨ds, G1, p1, w1, x1, rs, q⟩ => ?_
  have rs : Reps m.S G1 m.pen vs ds := rs
  have xx1 := (x.trans x0).trans x1
  split at q
  · rename_i hz
    refine ⟨by rw [rs.length]; exact szOk_le hz, fun l hl => ?_⟩
    have xa : Ex m.pen G1 H1 G1 (upd H1 l (.lst vs)) := Ex.allocM hl
    have wa : Wd m.S m.pen G1 (upd H1 l (.lst vs)) p1 := w1.allocM hl
    refine (tS_step (R := m.rA) wa (xx1.trans xa) (((sl.ex x0).ex x1).ex xa) q).imp fun us H2 ⟨es, G2, p2, w2, x2, rv, q⟩ => ?_
    have rv : Reps m.S G2 m.pen us es := rv
    split at q
    · rename_i hz2
      refine ⟨by rw [rv.length]; exact szOk_le hz2, fun l2 hl2 => ⟨v0, .ref l, .ref l2, rfl, ?_⟩⟩
      have s0 := (((sl.ex x0).ex x1).set (i := i) (r0.mono x1.sub)).newMl (i := j) w1 rs hl (xx1.dom l hl)
      have xx := (xx1.trans xa).trans x2
      exact q _ G2 _ (Sub.refl _) (w2.allocM hl2) (xx.trans (Ex.allocM hl2)) ((s0.ex x2).newMl w2 rv hl2 (xx.dom l2 hl2))
    · exact q.elim
  · exact q.elim
theorem ms_p3EEF {ea eb : EX} {g : AX} (hc : X.calm = true) (hN : X.N.Nodup) (hi : X.N[i]? = some x) (hj : X.N[j]? = some y) (hl : X.N[k]? = some z) (hij : i ≠ j) (hil : i ≠ k) (hjl : j ≠ k) (hx : X.env.scope.names.lookup x = some .local) (hy : X.env.scope.names.lookup y = some .local) (hz : X.env.scope.names.lookup z = some .local) (ha : PE X a (tE m ea)) (hb : PE X b (tE m eb)) (hcc : PE X c (tF m g))
    (hw : swappedStores [.Tuple [.Name x px, .Name y py, .Name z pz] kt pt] (.Tuple [a, b, c] k2 pt2) X.env = pure (some [x, y, z])) (hs : swapsWithSole [.Tuple [.Name x px, .Name y py, .Name z pz] kt pt] (.Tuple [a, b, c] k2 pt2) pos.line X.env = pure false := by rfl)
    (h1 : starEach [a, b, c] X.env = (false, eval a X.env) :: starEach [b, c] X.env := by rfl) (h2 : starEach [b, c] X.env = (false, eval b X.env) :: starEach [c] X.env := by rfl) (h3 : starEach [c] X.env = (false, eval c X.env) :: starEach [] X.env := by rfl) :
    PS X (.Assign [.Tuple [.Name x px, .Name y py, .Name z pz] kt pt] (.Tuple [a, b, c] k2 pt2) pos) (tS m (sP3EEF i j k ea eb g)) := by
  refine PS.imp (ps_par3 hc hN hi hj hl hij hil hjl hx hy hz (pa_cons ha (pa_cons hb (pa_cons hcc pa_nil h3) h2) h1) hw hs) fun K σ H h => ?_
  obtain ⟨G, p, δ, w, x, sl, h⟩ := h
  refine (tS_step (R := m.rE) w x sl h).imp fun v0 H0 ⟨d, G0, p0, w0, x0, r0, q⟩ => ?_
  have r0 : Rep m.S G0 m.pen v0 d := r0
  refine (tS_step (R := m.rE) w0 (x.trans x0) (sl.ex x0) q).imp fun v1 H1 ⟨d', G1, p1, w1, x1, r1, q⟩ => ?_
  have r1 : Rep m.S G1 m.pen v1 d' := r1
  have xx1 := (x.trans x0).trans x1
  refine (tS_step (R := m.rA) w1 xx1 ((sl.ex x0).ex x1) q).imp fun us H2 ⟨es, G2, p2, w2, x2, rv, q⟩ => ?_
  have rv : Reps m.S G2 m.pen us es := rv
  split at q
  · rename_i hz2
    refine ⟨by rw [rv.length]; exact szOk_le hz2, fun l2 hl2 => ⟨v0, v1, .ref l2, rfl, ?_⟩⟩
    have s0 := ((((sl.ex x0).ex x1).ex x2).set (i := i) (r0.mono (x1.sub.trans x2.sub))).set (i := j) (r1.mono x2.sub)
    have xx := xx1.trans x2
    exact q _ G2 _ (Sub.refl _) (w2.allocM hl2) (xx.trans (Ex.allocM hl2)) (s0.newMl w2 rv hl2 (xx.dom l2 hl2))
  · exact q.elim
end
end
end ME

/-! min of two ints; sep.join(texts); xs[::-1]; len of an own object. -/
namespace ME
open PySem PySem.Spec PyProof.Rows L2
def dMin : List D → M D
  | [.int i, .int j] => M.ret (.int (if j < i then j else i))
  | _ => M.stuck
def dMax : List D → M D
  | [.int i, .int j] => M.ret (.int (if j > i then j else i))
  | _ => M.stuck
def dJoin (a : Str) : List D → M D
  | [.lst l] => match strsOf l with
    | some ys => if decide ((ys.map (·.length)).sum + ys.length * a.length ≤ 16777216) then M.ret (.str (Txt.join a ys)) else M.stuck
    | none => M.stuck
  | _ => M.stuck
def dRev : D → M D
  | .lst l => M.ret (.lst l.reverse)
  | _ => M.stuck
def dLenO (tbl : OTab) : List D → M D
  | [.obj c fs] => match tbl.lookup c with
    | some mf => ((mf [.obj c fs]).calm).bnd fun d => match d with
      | .int n => if decide (0 ≤ n) && decide (n < 2 ^ 63) then M.ret (.int n) else M.stuck
      | _ => M.stuck
    | none => M.stuck
  | ds => dLen ds
section
variable {X : Cx} {m : Am} {j k : Nat}
theorem r_min : RAOk m (fun xs H Q => ∃ i j, xs = [.int i, .int j] ∧ Q (.int (if j < i then j else i)) H) dMin := by
  rintro σ xs H Q ⟨G, p, δ, ⟨_, ds⟩, w, sl, ⟨_, r⟩, h⟩
  have r : Reps m.S G m.pen xs ds := r
  dsimp only [dMin] at h
  split at h
  · cases r with
    | cons r1 r2 => cases r2 with
      | cons r2 r3 =>
        cases r3
        cases r1
        cases r2
        exact ⟨_, _, rfl, fin_same w (.int _) h⟩
  · exact h.elim
theorem r_max : RAOk m (fun xs H Q => ∃ i j, xs = [.int i, .int j] ∧ Q (.int (if j > i then j else i)) H) dMax := by
  rintro σ xs H Q ⟨G, p, δ, ⟨_, ds⟩, w, sl, ⟨_, r⟩, h⟩
  have r : Reps m.S G m.pen xs ds := r
  dsimp only [dMax] at h
  split at h
  · cases r with
    | cons r1 r2 => cases r2 with
      | cons r2 r3 =>
        cases r3
        cases r1
        cases r2
        exact ⟨_, _, rfl, fin_same w (.int _) h⟩
  · exact h.elim
theorem b_min (B : Bx X m j) : BltT X m "min" dMin := ⟨.inl ⟨_, _, rfl, call_min2 B.calm, r_min⟩⟩
theorem b_max (B : Bx X m j) : BltT X m "max" dMax := ⟨.inl ⟨_, _, rfl, call_max2 B.calm, r_max⟩⟩
theorem r_join (hK : X.K = m.S.K) : RMOk m (fun x xs H Q => ∃ a p, ∃ ys : List Str, x = .str a ∧ xs = [.ref p] ∧ (SqL X.K H p (ys.map V.str) ∨ SqT X.K H p (ys.map V.str)) ∧ (ys.map (·.length)).sum + ys.length * a.length ≤ 16777216 ∧ Q (.str (Txt.join a ys)) H) dJoin := by
  intro a xs H Q E G p ds w r h
  dsimp only [dJoin] at h
  split at h
  · rename_i l
    cases r with
    | cons r1 r2 =>
      cases r2
      cases r1 with
      | @lst b vs _ hb rr =>
        cases e : strsOf l with
        | none => rw [e] at h; exact h.elim
        | some ys =>
          rw [e] at h
          dsimp only at h
          split at h
          · rename_i hz
            have := strs_repsO rr e
            subst this
            exact ⟨a, b, ys, rfl, rfl, .inl (.of (w.sub _ _ hb)), of_decide_eq_true hz, fin_same w (.str _) h⟩
          · exact h.elim
  · exact h.elim
theorem Reps.reverse {S : Sg} {G : Hp} {pen : Addr} : ∀ {vs : List V} {ds : List D}, Reps S G pen vs ds → Reps S G pen vs.reverse ds.reverse
  | _, _, .nil => .nil
  | _, _, .cons h r => by
    rw [List.reverse_cons, List.reverse_cons]
    exact (Reps.reverse r).append (.cons h .nil)
theorem me_rev {e : Expr} {ea : EX} {kk : Nat} {p1 p2 p3 pos : Pos} (he : PE X e (tE m ea)) : PE X (.Subscript e (.Slice none none (some (.UnaryOp .USub (.Constant (.int 1) kk p1) p2)) p3) pos) (tE m (mUn dRev ea)) := by
  refine PE.imp (pe_revL he) fun σ H Q h => ?_
  refine (tY_bind (R1 := m.rE) r0_mono h).imp fun x H1 h2 => ?_
  obtain ⟨G, p, δ, ⟨_, d⟩, w, sl, ⟨_, r⟩, h5⟩ := h2
  have r : Rep m.S G m.pen x d := r
  cases r with
  | @lst a vs ds ha rr => exact ⟨a, vs, rfl, .of (w.sub _ _ ha), fin_new (m := m) w h5 fun b hb => .lst upd_same (rr.mono (Sub.alloc (w.gfree hb))).reverse⟩
  | _ => exact h5.elim
def rLenO (m : Am) (tbl : OTab) : List V → Hp → VK → Prop := fun xs H Q => ∃ c mf a dx fs G p ds, tbl.lookup c = some mf ∧ xs = [.ref a] ∧ H a = some (.ins (m.S.ca c) dx fs) ∧ Wd m.S m.pen G H p ∧ Rep m.S G m.pen (.ref a) (.obj c ds) ∧
  Post m.S m.pen (fun G v d => Rep m.S G m.pen v d) G H (fun v H' => ∃ n, v = .int n ∧ (0 ≤ n ∧ n < 2 ^ 63) ∧ Q (.int n) H') (fun _ _ _ => False) (mf [.obj c ds] p)
theorem call_lenO {tbl : OTab} (B : Bx X m j) (T : ∀ c mf, tbl.lookup c = some mf → OwnT X.prog X.w X.K X.mg X.base m.S k c "__len__" 1 mf) (hk : Nat.ble (k + 2) j = true) : CallR X (.builtin "len") (rLenO m tbl) := by
  intro pins s σ H xs us Q I r h
  obtain ⟨c, mf, a, dx, fs, G, p, ds, el, rfl, ha, w, r1, h5⟩ := h
  obtain ⟨u, rfl, rx⟩ := vals1 r
  cases (show u = Value.ref a from rx)
  obtain ⟨f, fd, ps, F, hs, hf, hb⟩ := T c mf el
  obtain ⟨od, J⟩ := insInst I ha
  obtain ⟨m', hF⟩ := I.fr
  have hr : Room (k + 2) X.A := B.hr.mono (Nat.le_of_ble_eq_true hk)
  refine PySem.W.len_K hF I.ok.mod.kin J hs hf ?_
  obtain ⟨its, vd, bd⟩ := hb.ex
  cases vd
  have bt := bd s [.ref a] [] I.kIn rfl rfl
  have sp : spM m.S mf [.ref a] H (fun v H' => ∃ n, v = .int n ∧ (0 ≤ n ∧ n < 2 ^ 63) ∧ Q (.int n) H') (fun _ _ _ => False) := ⟨m.pen, G, p, _, w, .cons r1 .nil, h5⟩
  refine wpAny_call (codeAny_mono ((F.mono (Nat.le_succ k)).run X.A.in1 X.stack s H ⟨[.ref a], []⟩ [.ref a] [.ref a] _ (fun _ _ _ => False) B.hq hr.in1 I.env0.in1 bt (.cons rfl .nil) sp) fun r s' hq => ?_)
  cases r with
  | error e => exact B.pf pins σ H s e s' I hq
  | ok fl =>
    cases fl with
    | ret z =>
      obtain ⟨v', H', I', rv', n, ey, hn, q⟩ := I.after hq
      subst ey
      obtain ⟨t, rfl⟩ := (show ∃ t, z = Value.int n t from rv')
      exact ⟨hn, .int n, H', I'.tok _, ⟨_, rfl⟩, q⟩
    | next => exact False.elim hq
    | brk => exact False.elim hq
    | cont => exact False.elim hq
theorem b_lenO {tbl : OTab} (B : Bx X m j) (T : ∀ c mf, tbl.lookup c = some mf → OwnT X.prog X.w X.K X.mg X.base m.S k c "__len__" 1 mf) (hk : Nat.ble (k + 2) j = true) : BltT X m "len" (dLenO tbl) := by
  refine ⟨.inl ⟨_, _, rfl, CallR.or call_lenM (call_lenO B T hk), ?_⟩⟩
  rintro σ xs H Q ⟨G, p, δ, ⟨u, ds⟩, w, sl, ⟨_, r⟩, h⟩
  have r : Reps m.S G m.pen xs ds := r
  by_cases ho : ∃ c fs, ds = [.obj c fs]
  · obtain ⟨c, fs, rfl⟩ := ho
    right
    cases r with
    | cons r1 r2 =>
      cases r2
      cases id r1 with
      | @obj a dx _ vs _ ha hl rr =>
        dsimp only [dLenO] at h
        cases e : tbl.lookup c with
        | none => rw [e] at h; exact h.elim
        | some mf =>
          rw [e] at h
          refine ⟨c, mf, a, dx, _, G, p, fs, e, rfl, w.sub _ _ ha, w, r1, ?_⟩
          dsimp only [M.bnd, M.calm] at h
          rcases he : mf [.obj c fs] p with _ | ⟨o, p1⟩
          · rw [he] at h; exact h
          · rw [he] at h
            cases o with
            | ex c' gs => exact h.elim
            | ok d =>
              intro v G' H' x' w' rv
              have rv : Rep m.S G' m.pen v d := rv
              cases rv with
              | int n =>
                dsimp only at h
                split at h
                · rename_i hz
                  simp only [Bool.and_eq_true, decide_eq_true_eq] at hz
                  exact ⟨n, rfl, hz, h (.int n) G' H' x' w' (.int n)⟩
                · exact h.elim
              | _ => exact h.elim
  · left
    refine r_len B.hK σ xs H Q ⟨G, p, δ, ⟨u, ds⟩, w, sl, ⟨trivial, r⟩, ?_⟩
    have e : dLenO tbl ds = dLen ds := by
      match ds with
      | [] => rfl
      | [.obj c fs] => exact absurd ⟨_, _, rfl⟩ ho
      | [.non] => rfl
      | [.bl _] => rfl
      | [.int _] => rfl
      | [.str _] => rfl
      | [.tup _] => rfl
      | [.lst _] => rfl
      | [.dct _] => rfl
      | [.exc _ _] => rfl
      | [.cls _] => rfl
      | [.ty _] => rfl
      | [.pen] => rfl
      | [.clo _] => rfl
      | a :: _ :: _ => cases a <;> rfl
    dsimp only at h ⊢
    rw [e] at h
    exact h
end
end ME

/-! x op y by an own def of the class of x. -/
namespace PySem.MeBop
open PySem PySem.W PySem.Calls PyProof.Rows PySem.Spec
section
variable {prog : Program} {w : World} {M : Model} {A : Around} {E : Value → Shared → Prop} {s : Shared} {K : Frag} {x C C' f : Addr} {ox : Obj} {od : Option Obj} {nm : String}
theorem fills_no {h : Heap} {cd : ClassData} (X : K.In h) (hc : clsIn K C' = some cd) (hm : cd.mro = [.ref C', .type "object"]) (h1 : findIn K (.ref C') (PySem.dunder nm) = some none) (h2 : findIn K (.ref C') (dunderR nm) = some none) (h3 : findIn K (.type "object") (PySem.dunder nm) = some none) (h4 : findIn K (.type "object") (dunderR nm) = some none) :
    Looks M h (fillsNumberSlot (.ref C') nm) false := by
  intro A Q E s k q
  unfold fillsNumberSlot
  refine wpAny_bind ((looks_clsIn X hc).andThen (f := fun cd => pure cd.mro) .now A _ E s k ?_)
  rw [hm, List.anyM_cons]
  refine wpAny_bind ?_
  show wpAny M A (List.anyM _ [PySem.dunder nm, dunderR nm]) _ _ _
  rw [List.anyM_cons]
  refine wpAny_bind (wpAny_bind (looks_findIn X h1 A _ E s k ?_))
  try dsimp only
  refine wpAny_pure ?_
  try dsimp only
  rw [if_neg Bool.false_ne_true, List.anyM_cons]
  refine wpAny_bind (wpAny_bind (looks_findIn X h2 A _ E s k ?_))
  try dsimp only
  refine wpAny_pure ?_
  try dsimp only
  rw [if_neg Bool.false_ne_true, List.anyM_nil]
  refine wpAny_pure ?_
  try dsimp only
  rw [if_neg Bool.false_ne_true, List.anyM_cons]
  refine wpAny_bind ?_
  try dsimp only
  refine wpAny_bind (looks_findIn X h3 A _ E s k ?_)
  refine wpAny_bind (looks_findIn X h4 A _ E s k ?_)
  refine wpAny_pure ?_
  refine wpAny_pure ?_
  exact q
/-- the right operand's type, as the walk asks for it -/
structure RightOk (K : Frag) (C : Addr) (nm : String) (M : Model) (h : Heap) (tb : Value) : Prop where
  ex : ∃ right, Looks M h (fillsNumberSlot tb nm) right ∧ (Value.ref C == tb) = false ∧ (right = true → Looks M h (isSubtype tb (.ref C)) false ∧ Looks M h (numberSlotInPython tb nm) false ∧ ∃ ro, Looks M h (typeLookup tb (dunderR nm)) ro)
theorem bop {op : Operator} {b tb : Value} {rc : Option Value} {Q : Value → Shared → Prop} (X : K.In s.heap) (I : InstAt s.heap x ox C od) (hb : Looks (model prog w) s.heap (typeOf b) tb) (hc : selfFirst K C = true)
    (hs : findIn K (.ref C) (PySem.dunder op.info.2) = some (some (.ref f))) (hf : isFn K (.ref f) = true) (hr : findIn K (.ref C) (dunderR op.info.2) = some rc) (hp : rc = none ∨ ∃ g : Addr, rc = some (.ref g)) (R : RightOk K C op.info.2 (model prog w) s.heap tb)
    (h : wpAny (model prog w) A (call (.ref f) [.ref x, b]) (PySem.W.CmpBack Q) E s) : wpAny (model prog w) A (binaryOp op (.ref x) b) Q E s := by
  obtain ⟨cd, rest, hcd, hm⟩ := ksp_first hc
  obtain ⟨right, hR, hne, hT⟩ := R.ex
  rcases hi : op.info with ⟨sym, nm'⟩
  rw [hi] at hs hr hR hT
  dsimp only at hs hr hR hT
  have one := ksp_try X I hs hf h
  have Lf : Looks (model prog w) s.heap (fillsNumberSlot (.ref C) nm') true := fills_K X hcd hm hs
  have Lp : Looks (model prog w) s.heap (numberSlotInPython (.ref C) nm') true := ksp_inPy X hs hr hp
  simp only [binaryOp, hi]
  refine wpAny_holding (wpAny_bind ?_)
  unfold binaryOp1
  refine wpAny_bind (I.type.here (wpAny_bind (hb.here (wpAny_bind (Lf.here ?_)))))
  simp only [hne, Bool.false_eq_true, if_false]
  refine wpAny_bind (hR.here ?_)
  cases right with
  | false =>
    simp only [Bool.and_false, Bool.false_and, Bool.false_eq_true, if_false]
    refine wpAny_bind (wpAny_pure ?_)
    refine wpAny_bind (wpAny_mono one (fun r s' hr' => ?_) fun _ _ e => e)
    obtain ⟨v, rfl, hq⟩ := hr'
    exact wpAny_pure (wpAny_pure hq)
  | true =>
    obtain ⟨Ls, Ln, ro, Lr⟩ := hT rfl
    obtain ⟨hh, g, d, tt, os⟩ := s
    simp only [Bool.and_true, Bool.true_and, if_true, Bool.not_false]
    ksp_lk
    refine wpAny_mono one (fun r s' hr' => ?_) fun _ _ e => e
    obtain ⟨v, rfl, hq⟩ := hr'
    ksp_lk
    exact hq
end
end PySem.MeBop
namespace ME
open PySem PySem.Spec PyProof.Rows L2
def dBop (tbl : OTab) (os : List Nat) : D → D → M D
  | .obj c fs, y => match tbl.lookup c with
    | some mf => match y with
      | .obj c' gs => if os.contains c' then mf [.obj c fs, .obj c' gs] else M.stuck
      | y => match tyName y with
        | some _ => mf [.obj c fs, y]
        | none => M.stuck
    | none => M.stuck
  | _, _ => M.stuck
def noNumB (K : PySem.W.Frag) (C : Addr) (nm : String) : Bool := ((PySem.W.clsIn K C).any fun cd => cd.mro == [.ref C, .type "object"]) && (PySem.W.findIn K (.ref C) (PySem.dunder nm) == some none && (PySem.W.findIn K (.ref C) (dunderR nm) == some none && (PySem.W.findIn K (.type "object") (PySem.dunder nm) == some none && PySem.W.findIn K (.type "object") (dunderR nm) == some none)))
def refN : Option (Option Value) → Bool
  | some none => true
  | some (some (.ref _)) => true
  | _ => false
def bopB (K : PySem.W.Frag) (S : Sg) (cs os : List Nat) (nm : String) : Bool := cs.all fun c => (PySem.W.selfFirst K (S.ca c) && refN (PySem.W.findIn K (.ref (S.ca c)) (dunderR nm))) && ((tyNames.all fun a => ((PySem.W.findIn K (.type a) (PySem.dunder nm)).isSome && (PySem.W.findIn K (.type a) (dunderR nm)).isSome) && PySem.W.subIn K (.type a) (.ref (S.ca c)) == some false) && os.all fun c' => S.ca c' == S.ca c || noNumB K (S.ca c') nm)
section
variable {X : Cx} {m : Am} {j k : Nat}
theorem right_type {K : PySem.W.Frag} {C : Addr} {nm T : String} {M : Model} {h : Heap} (X : K.In h) (h1 : (PySem.W.findIn K (.type T) (PySem.dunder nm)).isSome = true) (h2 : (PySem.W.findIn K (.type T) (dunderR nm)).isSome = true) (h3 : PySem.W.subIn K (.type T) (.ref C) = some false) : PySem.MeBop.RightOk K C nm M h (.type T) := by
  obtain ⟨fo, e1⟩ := Option.isSome_iff_exists.mp h1
  obtain ⟨ro, e2⟩ := Option.isSome_iff_exists.mp h2
  exact ⟨_, PySem.W.ksp_fillsT X e1 e2, (Bool.eq_false_iff.mpr fun q => by cases beq_iff_eq.mp q), fun _ => ⟨PySem.W.looks_subIn X h3, PySem.W.Looks.of_pure rfl, ro, PySem.W.looks_findIn X e2⟩⟩
theorem right_own {K : PySem.W.Frag} {C C' : Addr} {nm : String} {M : Model} {h : Heap} (X : K.In h) (hne : C' ≠ C) (hb : noNumB K C' nm = true) : PySem.MeBop.RightOk K C nm M h (.ref C') := by
  unfold noNumB at hb
  simp only [Bool.and_eq_true, beq_iff_eq] at hb
  obtain ⟨h0, h1, h2, h3, h4⟩ := hb
  obtain ⟨cd, hcd, hm⟩ := PySem.W.any_some h0
  refine ⟨false, PySem.MeBop.fills_no X hcd (beq_iff_eq.mp hm) h1 h2 h3 h4, Bool.eq_false_iff.mpr fun q => ?_, fun z => by cases z⟩
  cases beq_iff_eq.mp q
  exact hne rfl
theorem me_bop {op : Operator} {tbl : OTab} {cs os : List Nat} {a b : Expr} {ea eb : EX} {pos : Pos} (B : Bx X m j) (T : ∀ c mf, tbl.lookup c = some mf → OwnT X.prog X.w X.K X.mg X.base m.S k c (PySem.dunder op.info.2) 2 mf) (hk : Nat.ble k j = true) (hcs : cs = tbl.map (·.1)) (hB : bopB m.S.K m.S cs os op.info.2 = true) (ha : PE X a (tE m ea)) (hb : PE X b (tE m eb)) : PE X (.BinOp a op b pos) (tE m (mBin (dBop tbl os) ea eb)) := by
  refine ⟨fun pins s σ H Q I h => ?_⟩
  refine wpAny_BinOp (binT (R := fun x y H2 => tY m (rP (rP r0 m.rE) m.rE) m.rE (((), x), y) (fun z _ => dBop tbl os z.1.2 z.2) σ H2 Q) ha hb I ((tY_bind (R1 := m.rE) r0_mono h).imp fun x H1 h2 => (tY_bind (R1 := m.rE) (rP_mono r0_mono (rE_mono m)) h2).imp fun y H2 h4 => h4) fun v u s2 x y H2 I2 rx ry q => ?_)
  obtain ⟨G, p, δ, ⟨⟨_, dx⟩, dy⟩, w, sl, ⟨⟨_, r1⟩, r2⟩, h5⟩ := q
  have r1 : Rep m.S G m.pen x dx := r1
  have r2 : Rep m.S G m.pen y dy := r2
  cases id r1 with
  | @obj ad dxx c vs ds had hl rr =>
    dsimp only [dBop] at h5
    cases e : tbl.lookup c with
    | none => rw [e] at h5; exact h5.elim
    | some mf =>
      rw [e] at h5
      dsimp only at h5
      obtain ⟨f, fd, ps, F, hs, hf, hbd⟩ := T c mf e
      unfold bopB at hB
      have hBc := List.all_eq_true.mp hB c (by rw [hcs]; exact List.mem_map.mpr ⟨_, mem_of_lookup e, rfl⟩)
      rw [← B.hK] at hBc
      simp only [Bool.and_eq_true, List.all_eq_true] at hBc
      obtain ⟨⟨hself, href⟩, hty, hos⟩ := hBc
      obtain ⟨rc, hrc, hrp⟩ : ∃ rc, PySem.W.findIn X.K (.ref (m.S.ca c)) (dunderR op.info.2) = some rc ∧ (rc = none ∨ ∃ g : Addr, rc = some (.ref g)) := by
        revert href
        generalize PySem.W.findIn X.K (.ref (m.S.ca c)) (dunderR op.info.2) = z
        intro href
        match z, href with
        | some none, _ => exact ⟨_, rfl, .inl rfl⟩
        | some (some (.ref g)), _ => exact ⟨_, rfl, .inr ⟨g, rfl⟩⟩
      cases (show v = Value.ref ad from rx)
      obtain ⟨od, J⟩ := insInst I2 (w.sub _ _ had)
      obtain ⟨m', hF⟩ := I2.fr
      have key : ∀ tb, tbOf m.S dy = some tb → (tb = .ref (m.S.ca c) ∨ PySem.MeBop.RightOk X.K (m.S.ca c) op.info.2 (model X.prog X.w) s2.heap tb) → Post m.S m.pen m.rE G H2 Q (fun c d H' => m.W c d σ H') (mf [.obj c ds, dy] p) → wpAny (model X.prog X.w) X.A (binaryOp op (.ref ad) u) (EP X pins σ Q) X.xe s2 := fun tb et hR h6 => by
        have hcall : wpAny (model X.prog X.w) X.A (call (.ref f) [.ref ad, u]) (PySem.W.CmpBack (EP X pins σ Q)) X.xe s2 := by
          obtain ⟨its, vd, bd⟩ := hbd.ex
          cases vd
          have bt := bd s2 [.ref ad, u] [] I2.kIn rfl rfl
          have sp : spM m.S mf [.ref ad, y] H2 Q (WE m.W σ) := ⟨m.pen, G, p, _, w, .cons r1 (.cons r2 .nil), h6⟩
          refine wpAny_mono (wpAny_call (codeAny_mono ((F.mono (Nat.le_of_ble_eq_true hk)).run X.A X.stack s2 H2 ⟨[.ref ad, u], []⟩ [.ref ad, u] [.ref ad, y] Q (WE m.W σ) B.hq B.hr I2.env0 bt (.cons rfl (.cons ry .nil)) sp) (R' := fun r s' => match r with | .ok (.ret v) => EP X pins σ Q v s' | .ok _ => False | .error e => X.xe e s') fun r s' hq => ?_)) (fun w s' z => ?_) fun _ _ x => x
          · cases r with
            | error e => exact passAt B.tk σ pins H2 s2 e s' I2 hq
            | ok fl =>
              cases fl with
              | ret u => exact I2.after hq
              | next => exact False.elim hq
              | brk => exact False.elim hq
              | cont => exact False.elim hq
          · obtain ⟨z', H', I', rz, qz⟩ := z
            exact SlX.cmpback rz ⟨z', H', I', rz, qz⟩
        rcases hR with rfl | hR
        · exact PySem.W.binop_K hF I2.ok.mod.kin J (looks_tb B.hK I2 w r2 ry et) hself hs hf hcall
        · exact PySem.MeBop.bop I2.kIn J (looks_tb B.hK I2 w r2 ry et) hself hs hf hrc hrp hR hcall
      by_cases hy : ∃ c' gs, dy = .obj c' gs
      · obtain ⟨c', gs, rfl⟩ := hy
        dsimp only at h5
        split at h5
        · rename_i hz
          have ho := hos c' (by simpa using hz)
          by_cases hcc : m.S.ca c' = m.S.ca c
          · exact key _ rfl (.inl (by rw [hcc])) h5
          · refine key _ rfl (.inr (right_own I2.kIn hcc ?_)) h5
            rcases Bool.or_eq_true_iff.mp ho with z | z
            · exact absurd (beq_iff_eq.mp z) hcc
            · exact z
        · exact h5.elim
      · have h' : Post m.S m.pen m.rE G H2 Q (fun c d H' => m.W c d σ H') ((match tyName dy with | some _ => mf [.obj c ds, dy] | none => M.stuck) p) := by
          cases dy <;> first | exact h5 | exact absurd ⟨_, _, rfl⟩ hy
        cases q : tyName dy with
        | none => rw [q] at h'; exact h'.elim
        | some t =>
          rw [q] at h'
          have et : tbOf m.S dy = some (.type t) := by
            cases dy <;> first | exact absurd ⟨_, _, rfl⟩ hy | (simp only [tbOf, q, Option.map_some])
          have hx := hty t (tyName_in q)
          exact key _ et (.inr (right_type I2.kIn hx.1.1 hx.1.2 (beq_iff_eq.mp hx.2))) h'
  | _ => exact h5.elim
end
end ME

/-! t[::-1] of a tuple; f'{x!s}'. -/
namespace ME
open PySem PySem.Spec PyProof.Rows L2 HT
section
variable {prog : Program} {w : World} {A : Around} {E : Value → Shared → Prop} {s : Shared}
theorem rev_places {n : Nat} (hn : 0 < n) : Builtin.Slice.sliceAdjust none none (-1) (n : Int) = ((n : Int) - 1, -1) ∧ Builtin.Slice.slicePlaces ((n : Int) - 1) (-1) (-1) = n := by
  refine ⟨rfl, ?_⟩
  unfold Builtin.Slice.slicePlaces
  rw [if_neg (by decide), if_pos (by omega)]
  simp only [Int.neg_neg, Int.ediv_one]
  omega
theorem rev_applied {sl : Addr} {vl vu vs : Value} {n : Nat} {Q : Int × Int × Nat → Shared → Prop} (hs : s.heap.IsSliceOf sl vl vu vs) (pl : IsPart vl none) (pu : IsPart vu none) (ps : IsPart vs (some (-1))) (hn : 0 < n) (h : Q ((n : Int) - 1, -1, n) s) : wpAny (model prog w) A (Builtin.Slice.sliceApplied (.ref sl) (pure (n : Int))) Q E s := by
  obtain ⟨o, ho, hc, hd⟩ := id hs
  have e := rev_places hn
  unfold Builtin.Slice.sliceApplied Builtin.Slice.sliceFields
  refine wpAny_bind (wpAny_bind (wpAny_field ho hd (x := vl) rfl (wpAny_bind (wpAny_field ho hd (x := vu) rfl (wpAny_bind (wpAny_field ho hd (x := vs) rfl (wpAny_pure ?_)))))))
  refine wpAny_bind (slicePart_ ps ?_)
  show wpAny _ _ (if ((-1 : Int) == 0) = true then _ else _) _ _ s
  rw [if_neg (by decide)]
  refine wpAny_bind (slicePart_ pl (wpAny_bind (slicePart_ pu (wpAny_bind (wpAny_pure ?_)))))
  show wpAny _ _ (match Builtin.Slice.sliceAdjust none none (-1) (n : Int) with | (lo, hi) => pure (lo, (-1 : Int), Builtin.Slice.slicePlaces lo hi (-1))) _ _ s
  rw [e.1]
  show wpAny _ _ (pure ((n : Int) - 1, (-1 : Int), Builtin.Slice.slicePlaces ((n : Int) - 1) (-1) (-1))) _ _ s
  rw [e.2]
  exact wpAny_pure h
theorem fm_congr {α β : Type} {f g : α → Option β} : ∀ {l : List α}, (∀ x ∈ l, f x = g x) → l.filterMap f = l.filterMap g
  | [], _ => rfl
  | x :: l, h => by
    rw [List.filterMap_cons, List.filterMap_cons, h x List.mem_cons_self, fm_congr fun y hy => h y (List.mem_cons_of_mem _ hy)]
theorem rev_pick (xs : Array Value) : ((List.range xs.size).filterMap fun (m : Nat) => xs[(((xs.size : Int) - 1) + (m : Int) * (-1)).toNat]?).toArray = xs.toList.reverse.toArray := by
  congr 1
  have e : ∀ m ∈ List.range xs.size, xs[(((xs.size : Int) - 1) + (m : Int) * (-1)).toNat]? = xs[xs.size - 1 - m]? := fun m hm => by
    have := List.mem_range.mp hm
    have z : (((xs.size : Int) - 1) + (m : Int) * (-1)).toNat = xs.size - 1 - m := by omega
    rw [z]
  rw [fm_congr e]
  have h1 : (List.range xs.size).filterMap (fun m => xs[xs.size - 1 - m]?) = (((List.range xs.size).map fun m => xs.size - 1 - m)).filterMap (fun i => xs[i]?) := by rw [List.filterMap_map]; rfl
  rw [h1, PySem.W.krv_range, List.filterMap_reverse, PySem.W.krv_all]
theorem tuple_rev {t sl : Addr} {items : Array Value} {vl vu vs : Value} {Q : Value → Shared → Prop} (ht : IsTup s.heap t items) (hs : s.heap.IsSliceOf sl vl vu vs) (pl : IsPart vl none) (pu : IsPart vu none) (ps : IsPart vs (some (-1))) (hn : 0 < items.size)
    (h : Q (.ref s.heap.objs.size) { s with heap := s.heap.push { cls := .type "tuple", data := .seq items.toList.reverse.toArray } }) (hsz : items.size ≤ sizeLine) : wpAny (model prog w) A (getItem (.ref t) (.ref sl)) Q E s := by
  have hz : sizeOk (.seq items.toList.reverse.toArray) := by
    show items.toList.reverse.toArray.size ≤ sizeLine
    rw [List.size_toArray, List.length_reverse, Array.length_toList]; exact hsz
  obtain ⟨o, ho, hc, hd⟩ := id hs
  have hT : s.TypeIs (.ref sl) "slice" := ⟨o, ho, hc⟩
  unfold getItem
  try with_reducible refine wpAny_holding ?_
  first | refine wpAny_bind (wpAny_pure ?_) | skip
  refine wpAny_bind (wpAny_sequenceKey ht.typeIs (by decide) ?_)
  refine wpAny_bind (wpAny_callSpecial?_slot (name := Str.ofString "__getitem__") ht.typeIs PyProof.Rows.slot_tuple_getitem (wpAny_call_entry PyProof.Rows.slot_tuple_getitem ht.typeIs entry_tuple_getitem ?_ (args_tuple_getitem _ _)))
  show wpAny _ _ (Builtin.Tuple.tupleItemsOf (.ref t) >>= _) _ _ s
  refine wpAny_bind (tupleItemsOf_ ht (wpAny_bind (wpAny_typeOf hT ?_)))
  rw [if_pos (by decide)]
  refine wpAny_bind (rev_applied hs pl pu ps hn ?_)
  have hno : ¬ ((((items.size : Int) - 1) == 0 && (-1 : Int) == 1 && items.size == items.size) = true) := by
    intro q
    rw [Bool.and_eq_true, Bool.and_eq_true] at q
    exact absurd q.1.2 (by decide)
  show wpAny _ _ (if (((items.size : Int) - 1) == 0 && (-1 : Int) == 1 && items.size == items.size) = true then _ else _) _ _ s
  rw [if_neg hno, rev_pick]
  first
    | exact wpAny_bind (m := Builtin.Tuple.tupleExact _) (wpAny_newObj_type (wpAny_pure ⟨_, rfl, wpAny_pure h⟩) hz)
    | exact wpAny_bind (m := Builtin.Tuple.tupleExact _) (wpAny_newObj_type (wpAny_bind (wpAny_pure (wpAny_pure ⟨_, rfl, wpAny_pure h⟩))) hz)
    | exact wpAny_bind (wpAny_bind (m := Builtin.Tuple.tupleExact _) (wpAny_newObj_type (wpAny_pure (wpAny_pure ⟨_, rfl, wpAny_pure h⟩)) hz))
    | exact wpAny_bind (wpAny_bind (m := Builtin.Tuple.tupleExact _) (wpAny_newObj_type (wpAny_pure ⟨_, rfl, wpAny_pure h⟩) hz))
end
def dRevA : D → M D
  | .lst l => M.ret (.lst l.reverse)
  | .tup l => if l.isEmpty then M.stuck else M.ret (.tup l.reverse)
  | _ => M.stuck
section
variable {X : Cx} {m : Am} {j k : Nat}
def tRevA (K : PySem.W.Frag) (te : TE) : TE := fun σ H Q => te σ H fun x H1 => ∃ a xs, x = .ref a ∧ ((SqL K H1 a xs ∧ ∀ p, H1 p = none → Q (.ref p) (upd H1 p (.lst xs.reverse))) ∨ (SqT K H1 a xs ∧ xs ≠ [] ∧ ∀ p, H1 p = none → Q (.ref p) (upd H1 p (.tup xs.reverse))))
theorem pe_revA {e : Expr} {te : TE} {kk : Nat} {p1 p2 p3 pos : Pos} (he : PE X e te) : PE X (.Subscript e (.Slice none none (some (.UnaryOp .USub (.Constant (.int 1) kk p1) p2)) p3) pos) (tRevA X.K te) := by
  refine ⟨fun pins s σ H Q I h => ?_⟩
  refine Subscript_ (thn (he.run pins s σ H _ I h) fun v s1 ⟨x, H1, I1, r1, q1⟩ => ?_)
  obtain ⟨a, xs, rfl, q⟩ := q1
  cases r1
  have hst : PO X (some (.UnaryOp .USub (.Constant (.int 1) kk p1) p2)) (tPart (tUn (rU fun i => .int (-i)) (tC (.int 1)))) := po_some (pe_un un_neg pe_int)
  refine wpAny_Slice (thn (po_none.run pins s1 σ H1 (fun o H2 => o = none ∧ H2 = H1) I1 ⟨rfl, rfl⟩) fun vl s2 ⟨l, H2, I2, pl, el, e2⟩ => thn (po_none.run pins s2 σ H2 (fun o H3 => o = none ∧ H3 = H2) I2 ⟨rfl, rfl⟩) fun vu s3 ⟨u, H3, I3, pu, eu, e3⟩ => ?_)
  subst el e2 eu e3
  refine thn (hst.run pins s3 σ H3 (fun o H4 => o = some (-1) ∧ H4 = H3) I3 ⟨1, rfl, -1, rfl, rfl, rfl⟩) fun vs s4 ⟨o, H4, I4, ps, eo, e4⟩ => ?_
  subst eo e4
  have I5 : Inv X pins σ H4 { s4 with heap := s4.heap.push { cls := .type "slice", data := .fields #[vl, vu, vs] } } := I4.kept (t' := s4.toks) fun b ob q => Heap.get?_push_of_some _ q
  show wpAny (model X.prog X.w) X.A (subscriptTail e (.Slice none none (some (.UnaryOp .USub (.Constant (.int 1) kk p1) p2)) p3) (.ref a) (.ref s4.heap.objs.size)) (EP X pins σ Q) X.xe { s4 with heap := s4.heap.push { cls := .type "slice", data := .fields #[vl, vu, vs] } }
  rcases q with ⟨hx, q⟩ | ⟨hx, hne, q⟩
  · obtain ⟨its, r, ht, hz⟩ := I5.list hx
    have hlen := r.length
    refine tail_any (ops := [.ref a, .ref s4.heap.objs.size]) ht.isList.typeIs (PySem.slot_list_getitem.lookup) (wpAny_getItem_list_slice ht.isList (Heap.IsSliceOf.new _ vl vu vs) pl pu ps (by decide) ?_ (by rw [List.size_toArray]; omega)) (by with_unfolding_all rfl)
    rw [PySem.W.krv_pick]
    exact ⟨.ref _, _, I5.laid (t' := s4.toks) (o := .lst xs.reverse) (fun b ob q => Heap.get?_push_of_some _ q) (Nat.le_refl _) ⟨by rw [List.length_reverse]; exact hz, _, 0, r.reverse, Heap.get?_push_size _ rfl⟩, rfl, q _ (I5.hok.fresh (Nat.le_refl _))⟩
  · obtain ⟨its, r, ht, hz⟩ := I5.tuple hx
    have hlen := r.length
    have hpos : 0 < its.toArray.size := by
      rw [List.size_toArray, ← hlen]
      exact List.length_pos_iff.mpr hne
    refine tail_any (ops := [.ref a, .ref s4.heap.objs.size]) ht.typeIs (PyProof.Rows.slot_tuple_getitem.lookup) (tuple_rev ht (Heap.IsSliceOf.new _ vl vu vs) pl pu ps hpos ?_ (by rw [List.size_toArray]; omega)) (by with_unfolding_all rfl)
    exact ⟨.ref _, _, I5.laid (t' := s4.toks) (o := .tup xs.reverse) (fun b ob q => Heap.get?_push_of_some _ q) (Nat.le_refl _) ⟨by rw [List.length_reverse]; exact hz, _, r.reverse, IsTup.new _ _⟩, rfl, q _ (I5.hok.fresh (Nat.le_refl _))⟩
theorem me_revA {e : Expr} {ea : EX} {kk : Nat} {p1 p2 p3 pos : Pos} (hK : X.K = m.S.K) (he : PE X e (tE m ea)) : PE X (.Subscript e (.Slice none none (some (.UnaryOp .USub (.Constant (.int 1) kk p1) p2)) p3) pos) (tE m (mUn dRevA ea)) := by
  refine PE.imp (pe_revA he) fun σ H Q h => ?_
  refine (tY_bind (R1 := m.rE) r0_mono h).imp fun x H1 h2 => ?_
  obtain ⟨G, p, δ, ⟨_, d⟩, w, sl, ⟨_, r⟩, h5⟩ := h2
  have r : Rep m.S G m.pen x d := r
  rw [hK]
  cases r with
  | @lst a vs ds ha rr => exact ⟨a, vs, rfl, .inl ⟨.of (w.sub _ _ ha), fin_new (m := m) w h5 fun b hb => .lst upd_same (rr.mono (Sub.alloc (w.gfree hb))).reverse⟩⟩
  | @tup a vs ds ha rr =>
    dsimp only [dRevA] at h5
    split at h5
    · exact h5.elim
    · rename_i hne
      exact ⟨a, vs, rfl, .inr ⟨w.sub.sqt ha, fun z => hne (by rw [← rr.isEmpty, z]; rfl), fin_new (m := m) w h5 fun b hb => .tup (.inl (.of upd_same)) (rr.mono (Sub.alloc (w.gfree hb))).reverse⟩⟩
  | _ => exact h5.elim
end
end ME

/-! f'{x!s}', x[i], x op= y by own defs. -/
namespace PySem.MeBop
open PySem PySem.W PySem.Calls PyProof.Rows PySem.Spec
section
variable {prog : Program} {w : World} {M : Model} {A : Around} {E : Value → Shared → Prop} {s : Shared} {K : Frag} {x C C' f : Addr} {ox : Obj} {od : Option Obj} {nm : String}
theorem bop1 {b tb : Value} {rc : Option Value} {Q : Value → Shared → Prop} (X : K.In s.heap) (I : InstAt s.heap x ox C od) (hb : Looks (model prog w) s.heap (typeOf b) tb) (hc : selfFirst K C = true)
    (hs : findIn K (.ref C) (PySem.dunder nm) = some (some (.ref f))) (hf : isFn K (.ref f) = true) (hr : findIn K (.ref C) (dunderR nm) = some rc) (hp : rc = none ∨ ∃ g : Addr, rc = some (.ref g)) (R : tb = .ref C ∨ RightOk K C nm (model prog w) s.heap tb)
    (h : wpAny (model prog w) A (call (.ref f) [.ref x, b]) (PySem.W.CmpBack Q) E s) : wpAny (model prog w) A (binaryOp1 nm (.ref x) b) (fun r s' => ∃ v, r = some v ∧ Q v s') E s := by
  obtain ⟨cd, rest, hcd, hm⟩ := ksp_first hc
  have one := ksp_try X I hs hf h
  have Lf : Looks (model prog w) s.heap (fillsNumberSlot (.ref C) nm) true := fills_K X hcd hm hs
  have Lp : Looks (model prog w) s.heap (numberSlotInPython (.ref C) nm) true := ksp_inPy X hs hr hp
  unfold binaryOp1
  refine wpAny_bind (I.type.here (wpAny_bind (hb.here (wpAny_bind (Lf.here ?_)))))
  rcases R with rfl | R
  · simp only [beq_self_eq_true, if_true]
    refine wpAny_bind (wpAny_pure ?_)
    simp only [Bool.and_false, Bool.false_eq_true, if_false, Bool.false_and]
    refine wpAny_bind (wpAny_pure ?_)
    refine wpAny_bind (wpAny_mono one (fun r s' hr' => ?_) fun _ _ e => e)
    obtain ⟨v, rfl, hq⟩ := hr'
    exact wpAny_pure ⟨v, rfl, hq⟩
  obtain ⟨right, hR, hne, hT⟩ := R.ex
  simp only [hne, Bool.false_eq_true, if_false]
  refine wpAny_bind (hR.here ?_)
  cases right with
  | false =>
    simp only [Bool.and_false, Bool.false_and, Bool.false_eq_true, if_false]
    refine wpAny_bind (wpAny_pure ?_)
    refine wpAny_bind (wpAny_mono one (fun r s' hr' => ?_) fun _ _ e => e)
    obtain ⟨v, rfl, hq⟩ := hr'
    exact wpAny_pure ⟨v, rfl, hq⟩
  | true =>
    obtain ⟨Ls, Ln, ro, Lr⟩ := hT rfl
    obtain ⟨hh, g, d, tt, os⟩ := s
    simp only [Bool.and_true, Bool.true_and, if_true, Bool.not_false]
    ksp_lk
    refine wpAny_mono one (fun r s' hr' => ?_) fun _ _ e => e
    obtain ⟨v, rfl, hq⟩ := hr'
    ksp_lk
    exact ⟨v, rfl, hq⟩
theorem fillsI_no {h : Heap} {cd : ClassData} {add : Bool} (X : K.In h) (hc : clsIn K C = some cd) (hm : cd.mro = [.ref C, .type "object"]) (h1 : findIn K (.ref C) (dunderI nm) = some none) (h3 : findIn K (.type "object") (dunderI nm) = some none) :
    Looks M h (fillsInplaceSlot (.ref C) nm add) false := by
  intro A Q E s k q
  unfold fillsInplaceSlot
  refine wpAny_bind ((looks_clsIn X hc).andThen (f := fun cd => pure cd.mro) .now A _ E s k ?_)
  rw [hm, List.anyM_cons]
  refine wpAny_bind (wpAny_bind (looks_findIn X h1 A _ E s k ?_))
  try dsimp only
  refine wpAny_pure ?_
  try dsimp only
  rw [if_neg Bool.false_ne_true, List.anyM_cons]
  refine wpAny_bind (wpAny_bind (looks_findIn X h3 A _ E s k ?_))
  try dsimp only
  refine wpAny_pure ?_
  try dsimp only
  rw [if_neg Bool.false_ne_true, List.anyM_nil]
  exact wpAny_pure q
theorem iop {op : Operator} {cd : ClassData} {b tb : Value} {rc : Option Value} {Q : Value → Shared → Prop} (X : K.In s.heap) (I : InstAt s.heap x ox C od) (hb : Looks (model prog w) s.heap (typeOf b) tb) (hc : selfFirst K C = true) (hcd : clsIn K C = some cd) (hm : cd.mro = [.ref C, .type "object"])
    (i1 : findIn K (.ref C) (dunderI op.info.2) = some none) (i3 : findIn K (.type "object") (dunderI op.info.2) = some none)
    (hs : findIn K (.ref C) (PySem.dunder op.info.2) = some (some (.ref f))) (hf : isFn K (.ref f) = true) (hr : findIn K (.ref C) (dunderR op.info.2) = some rc) (hp : rc = none ∨ ∃ g : Addr, rc = some (.ref g)) (R : tb = .ref C ∨ RightOk K C op.info.2 (model prog w) s.heap tb)
    (h : wpAny (model prog w) A (call (.ref f) [.ref x, b]) (PySem.W.CmpBack Q) E s) : wpAny (model prog w) A (inplaceOp op (.ref x) b) Q E s := by
  have one := bop1 X I hb hc hs hf hr hp R h
  have Li : Looks (model prog w) s.heap (fillsInplaceSlot (.ref C) op.info.2 (op == .Add)) false := fillsI_no X hcd hm i1 i3
  unfold inplaceOp
  refine wpAny_holding (wpAny_bind (I.type.here (wpAny_bind (Li.here ?_))))
  rw [if_neg Bool.false_ne_true]
  refine wpAny_bind (wpAny_mono one (fun r s' hr' => ?_) fun _ _ e => e)
  obtain ⟨v, rfl, hq⟩ := hr'
  exact wpAny_pure hq
end
end PySem.MeBop
namespace ME
open PySem PySem.Spec PyProof.Rows L2
section
variable {X : Cx} {m : Am} {j k : Nat}
/-! ### f'{x!s}' -/
def dFmtS (tbl : OTab) : D → M D
  | .obj c fs => match tbl.lookup c with
    | some mf => ((mf [.obj c fs]).calm).bnd fun d => match d with
      | .str y => if szOk y.length then M.ret (.str y) else M.stuck
      | _ => M.stuck
    | none => M.stuck
  | _ => M.stuck
theorem me_fmtS {tbl : OTab} {e : Expr} {ea : EX} {p1 pos : Pos} (B : Bx X m j) (T : ∀ c mf, tbl.lookup c = some mf → OwnT X.prog X.w X.K X.mg X.base m.S k c "__str__" 1 mf) (hk : Nat.ble (k + 2) j = true) (he : PE X e (tE m ea)) : PE X (.JoinedStr [.FormattedValue e 115 none p1] pos) (tE m (mUn (dFmtS tbl) ea)) := by
  refine pe_joined1 ⟨fun pins s σ H Q I h => ?_⟩
  refine wpAny_FormattedValue_s (thn (he.run pins s σ H _ I (tY_bind (R1 := m.rE) r0_mono h)) fun u s1 ⟨v, H1, I1, rx, h2⟩ => ?_)
  obtain ⟨G, p, δ, ⟨_, d⟩, w, sl, ⟨_, r⟩, h3⟩ := h2
  have r : Rep m.S G m.pen v d := r
  cases id r with
  | @obj a dx c vs ds ha hl rr =>
    dsimp only [dFmtS] at h3
    cases el : tbl.lookup c with
    | none => rw [el] at h3; exact h3.elim
    | some mf =>
      rw [el] at h3
      obtain ⟨f, fd, ps, F, hs, hf, hb⟩ := T c mf el
      cases (show u = Value.ref a from rx)
      obtain ⟨od, J⟩ := insInst I1 (w.sub _ _ ha)
      have hr : Room (k + 2) X.A := B.hr.mono (Nat.le_of_ble_eq_true hk)
      show wpAny (model X.prog X.w) X.A (pyStrObj (.ref a)) _ _ s1
      refine PySem.W.kfo_str (by have := hr.units; omega) I1.kIn J hs hf ?_
      obtain ⟨its, vd, bd⟩ := hb.ex
      cases vd
      have bt := bd s1 [.ref a] [] I1.kIn rfl rfl
      have h5 : Post m.S m.pen (fun G v d => Rep m.S G m.pen v d) G H1 (fun v H' => ∃ y, v = .str y ∧ y.length ≤ sizeLine ∧ Q (.str y) H') (fun _ _ _ => False) (mf [.obj c ds] p) := by
        dsimp only [M.bnd, M.calm] at h3
        rcases he : mf [.obj c ds] p with _ | ⟨o, p1⟩
        · rw [he] at h3; exact h3
        · rw [he] at h3
          cases o with
          | ex c' gs => exact h3.elim
          | ok d =>
            intro v G' H' x' w' rv
            have rv : Rep m.S G' m.pen v d := rv
            cases rv with
            | str y =>
              dsimp only at h3
              split at h3
              · rename_i hz
                exact ⟨y, rfl, szOk_le hz, h3 (.str y) G' H' x' w' (.str y)⟩
              · exact h3.elim
            | _ => exact h3.elim
      have sp : spM m.S mf [.ref a] H1 (fun v H' => ∃ y, v = .str y ∧ y.length ≤ sizeLine ∧ Q (.str y) H') (fun _ _ _ => False) := ⟨m.pen, G, p, _, w, .cons r .nil, h5⟩
      refine wpAny_call (codeAny_mono ((F.mono (Nat.le_add_right k 2)).run X.A X.stack s1 H1 ⟨[.ref a], []⟩ [.ref a] [.ref a] _ (fun _ _ _ => False) B.hq hr I1.env0 bt (.cons rfl .nil) sp) fun r s' hq => ?_)
      cases r with
      | error e => exact B.pf pins σ H1 s1 e s' I1 hq
      | ok fl =>
        cases fl with
        | ret z =>
          obtain ⟨v', H', I', rv', y, ey, hz, q⟩ := I1.after hq
          subst ey
          obtain ⟨t, rfl⟩ := (show ∃ t, z = Value.str y t from rv')
          exact wpAny_formatField_str ⟨.str y, H', I', ⟨t, rfl⟩, q⟩ ⟨.str y, H', I'.tok _, ⟨_, rfl⟩, q⟩ hz
        | next => exact False.elim hq
        | brk => exact False.elim hq
        | cont => exact False.elim hq
  | _ => exact h3.elim
/-! ### x[i] -/
def dIxO (tbl : OTab) : D → D → M D
  | .obj c fs, y => match tbl.lookup c with
    | some mf => (mf [.obj c fs, y]).calm
    | none => M.stuck
  | _, _ => M.stuck
def gitB (K : PySem.W.Frag) (S : Sg) (cs : List Nat) : Bool := cs.all fun c => match PySem.W.findIn K (.ref (S.ca c)) "__getitem__" with
  | some (some (.ref f)) => PySem.W.fnIn K f
  | _ => false
theorem me_ixO {tbl : OTab} {cs : List Nat} {a b : Expr} {ea eb : EX} {pos : Pos} (B : Bx X m j) (T : ∀ c mf, tbl.lookup c = some mf → OwnT X.prog X.w X.K X.mg X.base m.S k c "__getitem__" 2 mf) (hk : Nat.ble (k + 2) j = true) (hcs : cs = tbl.map (·.1)) (hB : gitB m.S.K m.S cs = true) (ha : PE X a (tE m ea)) (hb : PE X b (tE m eb))
    (hsl : ∀ (x : Addr) (i : Value), subscripted b true (.ref x) i = runValue (.builtin "lifetime.subscript" ⟨[.ref x, i], []⟩) := by intro x i; with_unfolding_all rfl) : PE X (.Subscript a b pos) (tE m (mBin (dIxO tbl) ea eb)) := by
  refine ⟨fun pins s σ H Q I h => ?_⟩
  refine Subscript_ (binT (R := fun x y H2 => tY m (rP (rP r0 m.rE) m.rE) m.rE (((), x), y) (fun z _ => dIxO tbl z.1.2 z.2) σ H2 Q) ha hb I ((tY_bind (R1 := m.rE) r0_mono h).imp fun x H1 h2 => (tY_bind (R1 := m.rE) (rP_mono r0_mono (rE_mono m)) h2).imp fun y H2 h4 => h4) fun v u s2 x y H2 I2 rx ry q => ?_)
  obtain ⟨G, p, δ, ⟨⟨_, dx⟩, dy⟩, w, sl, ⟨⟨_, r1⟩, r2⟩, h5⟩ := q
  have r1 : Rep m.S G m.pen x dx := r1
  have r2 : Rep m.S G m.pen y dy := r2
  cases id r1 with
  | @obj ad dxx c vs ds had hl rr =>
    dsimp only [dIxO] at h5
    cases e : tbl.lookup c with
    | none => rw [e] at h5; exact h5.elim
    | some mf =>
      rw [e] at h5
      obtain ⟨f, fd, ps, F, hs, hf, hbd⟩ := T c mf e
      have hfn : PySem.W.fnIn X.K f = true := by
        unfold gitB at hB
        have := List.all_eq_true.mp hB c (by rw [hcs]; exact List.mem_map.mpr ⟨_, mem_of_lookup e, rfl⟩)
        rw [← B.hK, hs] at this
        exact this
      cases (show v = Value.ref ad from rx)
      obtain ⟨od, J⟩ := insInst I2 (w.sub _ _ had)
      obtain ⟨m', hF⟩ := I2.fr
      have hr : Room (k + 2) X.A := B.hr.mono (Nat.le_of_ble_eq_true hk)
      refine PySem.W.sub_K hF I2.ok.mod.kin J hs hfn hf ?_ (hsl _ _)
      obtain ⟨its, vd, bd⟩ := hbd.ex
      cases vd
      have bt := bd s2 [.ref ad, u] [] I2.kIn rfl rfl
      have sp : spM m.S mf [.ref ad, y] H2 Q (fun _ _ _ => False) := ⟨m.pen, G, p, _, w, .cons r1 (.cons r2 .nil), post_calm h5⟩
      refine wpAny_call (codeAny_mono ((F.mono (Nat.le_succ k)).run X.A.in1 X.stack s2 H2 ⟨[.ref ad, u], []⟩ [.ref ad, u] [.ref ad, y] Q (fun _ _ _ => False) B.hq hr.in1 I2.env0.in1 bt (.cons rfl (.cons ry .nil)) sp) fun r s' hq => ?_)
      cases r with
      | error e => exact B.pf pins σ H2 s2 e s' I2 hq
      | ok fl =>
        cases fl with
        | ret u => exact I2.after hq
        | next => exact False.elim hq
        | brk => exact False.elim hq
        | cont => exact False.elim hq
  | _ => exact h5.elim
/-! ### x op= e -/
def augB (K : PySem.W.Frag) (S : Sg) (cs : List Nat) (nm : String) : Bool := cs.all fun c => ((PySem.W.clsIn K (S.ca c)).any fun cd => cd.mro == [.ref (S.ca c), .type "object"]) && (PySem.W.findIn K (.ref (S.ca c)) (dunderI nm) == some none && PySem.W.findIn K (.type "object") (dunderI nm) == some none)
def sAug (i : Nat) (o : D → D → M D) (e : EX) : SX := fun δ p => match δ[i]? with
  | some (some (.d x)) => sBnd e (fun y δ p => match o x y p with
    | some (.ok d, p') => some (.nx (δ.set i (some (.d d))), p')
    | _ => none) δ p
  | _ => none
def rightB (K : PySem.W.Frag) (C : Addr) (nm : String) : Value → Bool
  | .type a => ((PySem.W.findIn K (.type a) (PySem.dunder nm)).isSome && (PySem.W.findIn K (.type a) (dunderR nm)).isSome) && PySem.W.subIn K (.type a) (.ref C) == some false
  | .ref C' => C' == C || noNumB K C' nm
  | _ => false
theorem right_of {K : PySem.W.Frag} {C : Addr} {nm : String} {M : Model} {h : Heap} {tb : Value} (X : K.In h) (hb : rightB K C nm tb = true) : tb = .ref C ∨ PySem.MeBop.RightOk K C nm M h tb := by
  cases tb with
  | type a =>
    simp only [rightB, Bool.and_eq_true] at hb
    exact .inr (right_type X hb.1.1 hb.1.2 (beq_iff_eq.mp hb.2))
  | ref C' =>
    by_cases hcc : C' = C
    · exact .inl (by rw [hcc])
    · simp only [rightB, Bool.or_eq_true] at hb
      rcases hb with z | z
      · exact absurd (beq_iff_eq.mp z) hcc
      · exact .inr (right_own X hcc z)
  | _ => cases hb
def rAug (m : Am) (K : PySem.W.Frag) (tbl : OTab) (nm : String) : V → V → Hp → VK → Prop := fun x y H Q => ∃ c mf a dx fs G p ds dy tb, tbl.lookup c = some mf ∧ x = .ref a ∧ H a = some (.ins (m.S.ca c) dx fs) ∧ Wd m.S m.pen G H p ∧ Rep m.S G m.pen x (.obj c ds) ∧ Rep m.S G m.pen y dy ∧ tbOf m.S dy = some tb ∧ rightB K (m.S.ca c) nm tb = true ∧
  Post m.S m.pen (fun G v d => Rep m.S G m.pen v d) G H Q (fun _ _ _ => False) (mf [.obj c ds, dy] p)
theorem pip_own {op : Operator} {tbl : OTab} {cs os : List Nat} (B : Bx X m j) (T : ∀ c mf, tbl.lookup c = some mf → OwnT X.prog X.w X.K X.mg X.base m.S k c (PySem.dunder op.info.2) 2 mf) (hk : Nat.ble k j = true) (hcs : cs = tbl.map (·.1)) (hB : bopB m.S.K m.S cs os op.info.2 = true) (hA : augB m.S.K m.S cs op.info.2 = true) : PIp X op (rAug m X.K tbl op.info.2) := by
  intro pins s σ H x y v u Q I rx ry h
  obtain ⟨c, mf, a, dx, fs, G, p, ds, dy, tb, el, rfl, ha, w, r1, r2, et, hR, h5⟩ := h
  obtain ⟨f, fd, ps, F, hs, hf, hbd⟩ := T c mf el
  have hm : c ∈ cs := by rw [hcs]; exact List.mem_map.mpr ⟨_, mem_of_lookup el, rfl⟩
  unfold bopB at hB
  have hBc := List.all_eq_true.mp hB c hm
  unfold augB at hA
  have hAc := List.all_eq_true.mp hA c hm
  rw [← B.hK] at hBc hAc
  simp only [Bool.and_eq_true, beq_iff_eq] at hAc
  obtain ⟨hmro, i1, i3⟩ := hAc
  obtain ⟨cd, hcd, hmm⟩ := PySem.W.any_some hmro
  simp only [Bool.and_eq_true] at hBc
  obtain ⟨⟨hself, href⟩, _⟩ := hBc
  obtain ⟨rc, hrc, hrp⟩ : ∃ rc, PySem.W.findIn X.K (.ref (m.S.ca c)) (dunderR op.info.2) = some rc ∧ (rc = none ∨ ∃ g : Addr, rc = some (.ref g)) := by
    revert href
    generalize PySem.W.findIn X.K (.ref (m.S.ca c)) (dunderR op.info.2) = z
    intro href
    match z, href with
    | some none, _ => exact ⟨_, rfl, .inl rfl⟩
    | some (some (.ref g)), _ => exact ⟨_, rfl, .inr ⟨g, rfl⟩⟩
  cases (show v = Value.ref a from rx)
  obtain ⟨od, J⟩ := insInst I ha
  refine PySem.MeBop.iop I.kIn J (looks_tb B.hK I w r2 ry et) hself hcd (beq_iff_eq.mp hmm) i1 i3 hs hf hrc hrp (right_of I.kIn hR) ?_
  obtain ⟨its, vd, bd⟩ := hbd.ex
  cases vd
  have bt := bd s [.ref a, u] [] I.kIn rfl rfl
  have sp : spM m.S mf [.ref a, y] H Q (fun _ _ _ => False) := ⟨m.pen, G, p, _, w, .cons r1 (.cons r2 .nil), h5⟩
  refine wpAny_mono (wpAny_call (codeAny_mono ((F.mono (Nat.le_of_ble_eq_true hk)).run X.A X.stack s H ⟨[.ref a, u], []⟩ [.ref a, u] [.ref a, y] Q (fun _ _ _ => False) B.hq B.hr I.env0 bt (.cons rfl (.cons ry .nil)) sp) (R' := fun r s' => match r with | .ok (.ret v) => EP X pins σ Q v s' | .ok _ => False | .error e => X.xe e s') fun r s' hq => ?_)) (fun w s' z => ?_) fun _ _ x => x
  · cases r with
    | error e => exact B.pf pins σ H s e s' I hq
    | ok fl =>
      cases fl with
      | ret u => exact I.after hq
      | next => exact False.elim hq
      | brk => exact False.elim hq
      | cont => exact False.elim hq
  · obtain ⟨z', H', I', rz, qz⟩ := z
    exact SlX.cmpback rz ⟨z', H', I', rz, qz⟩
theorem ms_aug {op : Operator} {tbl : OTab} {cs os : List Nat} {i : Nat} {x : Str} {e : Expr} {ea : EX} {pos pos' : Pos} (B : Bx X m j) (T : ∀ c mf, tbl.lookup c = some mf → OwnT X.prog X.w X.K X.mg X.base m.S k c (PySem.dunder op.info.2) 2 mf) (hk : Nat.ble k j = true) (hcs : cs = tbl.map (·.1)) (hB : bopB m.S.K m.S cs os op.info.2 = true) (hA : augB m.S.K m.S cs op.info.2 = true)
    (hN : X.N.Nodup) (hi : X.N[i]? = some x) (hx : Loc X.env.scope x) (he : PE X e (tE m ea)) (hf : X.fn x = true ∨ X.env.scope.names.lookup x = some .local := by first | exact .inl rfl | exact .inr rfl | assumption) : PS X (.AugAssign (.Name x pos') op e pos) (tS m (sAug i (dBop tbl os) ea)) := by
  refine PS.imp (ps_aug hN hi hx he (pip_own B T hk hcs hB hA) hf) fun K σ H h => ?_
  obtain ⟨G, p, δ, w, xx, sl, h⟩ := h
  dsimp only [sAug] at h
  split at h
  · rename_i dx ei
    obtain ⟨v, e1, rv⟩ := sl.val i dx ei
    refine ⟨v, e1, (tS_step (R := m.rE) w xx sl h).imp fun y H1 ⟨dy, G1, p1, w1, x1, ry0, q⟩ => ?_⟩
    have ry : Rep m.S G1 m.pen y dy := ry0
    clear ry0
    have rv1 := rv.mono x1.sub
    cases id rv1 with
    | @obj a dxx c vs ds ha hl rr =>
      dsimp only [dBop] at q
      cases el : tbl.lookup c with
      | none => rw [el] at q; exact q.elim
      | some mf =>
        rw [el] at q
        dsimp only at q
        have hm : c ∈ cs := by rw [hcs]; exact List.mem_map.mpr ⟨_, mem_of_lookup el, rfl⟩
        unfold bopB at hB
        have hBc := List.all_eq_true.mp hB c hm
        rw [← B.hK] at hBc
        simp only [Bool.and_eq_true, List.all_eq_true] at hBc
        obtain ⟨_, hty, hos⟩ := hBc
        have fin : ∀ tb, tbOf m.S dy = some tb → rightB X.K (m.S.ca c) op.info.2 tb = true → PostS m K G1 (match mf [.obj c ds, dy] p1 with | some (.ok d, p') => some (.nx (δ.set i (some (.d d))), p') | _ => none) → rAug m X.K tbl op.info.2 (.ref a) y H1 (fun z H2 => K.nx (σ.set i (some z)) H2) := fun tb et hR hq => by
          refine ⟨c, mf, a, dxx, _, G1, p1, ds, dy, tb, el, rfl, w1.sub _ _ ha, w1, rv1, ry, et, hR, ?_⟩
          rcases hmf : mf [.obj c ds, dy] p1 with _ | ⟨o, p2⟩
          · rw [hmf] at hq; exact hq.elim
          · rw [hmf] at hq
            cases o with
            | ex c' gs => exact hq.elim
            | ok d => exact fun z G' H' x' w' rz => hq _ G' H' x'.sub w' ((xx.trans x1).trans x') (((sl.ex x1).ex x').set rz)
        by_cases hy : ∃ c' gs, dy = .obj c' gs
        · obtain ⟨c', gs, rfl⟩ := hy
          dsimp only at q
          by_cases hz : os.contains c' = true
          · rw [if_pos hz] at q
            exact fin _ rfl (hos c' (by simpa using hz)) q
          · rw [if_neg hz] at q; exact q.elim
        · have q' : PostS m K G1 (match (match tyName dy with | some _ => mf [.obj c ds, dy] | none => M.stuck) p1 with | some (.ok d, p') => some (.nx (δ.set i (some (.d d))), p') | _ => none) := by
            cases dy <;> first | exact q | exact absurd ⟨_, _, rfl⟩ hy
          cases ht : tyName dy with
          | none => rw [ht] at q'; exact q'.elim
          | some t =>
            rw [ht] at q'
            have et : tbOf m.S dy = some (.type t) := by
              cases dy <;> first | exact absurd ⟨_, _, rfl⟩ hy | (simp only [tbOf, ht, Option.map_some])
            have hx := hty t (tyName_in ht)
            refine fin _ et ?_ q'
            simp only [rightB, Bool.and_eq_true]
            exact hx
    | _ => exact q.elim
  · exact h.elim
theorem me_bopN {op : Operator} {nm : Str} {tbl : OTab} {cs os : List Nat} {a b : Expr} {ea eb : EX} {pos : Pos} (hn : nm = PySem.dunder op.info.2) (B : Bx X m j) (T : ∀ c mf, tbl.lookup c = some mf → OwnT X.prog X.w X.K X.mg X.base m.S k c nm 2 mf) (hk : Nat.ble k j = true) (hcs : cs = tbl.map (·.1)) (hB : bopB m.S.K m.S cs os op.info.2 = true) (ha : PE X a (tE m ea)) (hb : PE X b (tE m eb)) : PE X (.BinOp a op b pos) (tE m (mBin (dBop tbl os) ea eb)) := by
  subst hn
  exact me_bop B T hk hcs hB ha hb
theorem ms_augN {op : Operator} {nm : Str} {tbl : OTab} {cs os : List Nat} {i : Nat} {x : Str} {e : Expr} {ea : EX} {pos pos' : Pos} (hn : nm = PySem.dunder op.info.2) (B : Bx X m j) (T : ∀ c mf, tbl.lookup c = some mf → OwnT X.prog X.w X.K X.mg X.base m.S k c nm 2 mf) (hk : Nat.ble k j = true) (hcs : cs = tbl.map (·.1)) (hB : bopB m.S.K m.S cs os op.info.2 = true) (hA : augB m.S.K m.S cs op.info.2 = true)
    (hN : X.N.Nodup) (hi : X.N[i]? = some x) (hx : Loc X.env.scope x) (he : PE X e (tE m ea)) (hf : X.fn x = true ∨ X.env.scope.names.lookup x = some .local := by first | exact .inl rfl | exact .inr rfl | assumption) : PS X (.AugAssign (.Name x pos') op e pos) (tS m (sAug i (dBop tbl os) ea)) := by
  subst hn
  exact ms_aug B T hk hcs hB hA hN hi hx he hf
end
end ME

/-! zip of a tuple and a list: the walk of two tuples, turned. -/
namespace RZ
open PySem PySem.Spec PyProof.Rows L2
section
variable {prog : Program} {w : World} {A : Around} {E : Value → Shared → Prop} {s : Shared}
theorem zipM_next_item {zz TI TO i1 i2 l1 l2 : Addr} {k1 k2 : Nat} {xs ys : Array Value} {x y a b : Value} {Q : Value → Shared → Prop} (Ap : ZipApart zz TI TO i1 i2 l1 l2)
    (iz : IsZip s.heap zz TI TO .none) (ji : IsPair s.heap TI (.ref i1) (.ref i2)) (jo : IsPair s.heap TO a b)
    (h1 : s.heap.IsTupleIter i1 l1 k1) (h2 : s.heap.IsListIter i2 l2 k2) (la : s.heap.IsTuple l1 xs) (lb : s.heap.IsList l2 ys) (hx : xs[k1]? = some x) (hy : ys[k2]? = some y)
    (out : ∀ h', IsZip h' zz TI TO (rawInt s.heap.objs.size) → IsPair h' TO x y → h'.IsTupleIter i1 l1 (k1 + 1) → h'.IsListIter i2 l2 (k2 + 1) → IsPair h' s.heap.objs.size x y → h'.objs.size = s.heap.objs.size + 1 →
      (∀ c o, c ≠ zz → c ≠ TO → c ≠ i1 → c ≠ i2 → s.heap.get? c = some o → h'.get? c = some o) → Q (.ref s.heap.objs.size) { s with heap := h' }) :
    wpAny (model prog w) A (Builtin.«zip.__next__» ⟨[.ref zz], []⟩) (fun fin s' => ∃ v, fin = .done (.ret v) ∧ Q v s') E s := by
  show wpAny _ _ (field (.ref zz) 2 >>= _) _ _ _
  refine wpAny_bind (wpAny_field iz rfl (x := .bool false) rfl ?_)
  show wpAny _ _ (field (.ref zz) 3 >>= _) _ _ _
  refine wpAny_bind (wpAny_field iz rfl (x := .ref TI) rfl ?_)
  refine wpAny_bind (wpAny_seqItems ji rfl ?_)
  show wpAny _ _ (Builtin.SmallTypes.ownedTupleIsFree (.ref zz) >>= _) _ _ _
  refine wpAny_bind ?_
  (unfold Builtin.SmallTypes.ownedTupleIsFree)
  refine wpAny_bind (wpAny_field iz rfl (x := .none) rfl (wpAny_pure ?_))
  simp only [if_true]
  refine wpAny_bind
      (wpAny_rule ?_)
  refine wpAny_bind (wpAny_field iz rfl (x := .ref TO) rfl ?_)
  refine wpAny_bind (wpAny_setField_rec iz (by simp) fun h₁ y₁ k₁ => ?_)
  replace y₁ : IsZip h₁ zz TI TO .ellipsis := y₁
  refine wpAny_bind ?_
  simp only [List.forIn_cons, List.forIn_nil, List.zipIdx_cons, List.zipIdx_nil]

  refine wpAny_bind (wpAny_bind
      (wpAny_onRaise ?_))
  show wpAny _ _ (Builtin.SmallTypes.nextOf
      (.ref i1) >>= _) _ _ _
  refine wpAny_bind (nextOf_tuple_item (h1.extBut k₁.extBut Ap.i1z) (la.extBut k₁.extBut Ap.l1z) hx fun h₂ h1₂ k₂ => wpAny_pure ?_)
  have jo₂ : IsPair h₂ TO a b := k₂.extBut _ _ Ap.TOi1 (k₁.extBut _ _ Ap.TOz jo)
  refine wpAny_bind (wpAny_seqItems jo₂ rfl ?_)
  refine wpAny_bind (wpAny_updateSeq_pair jo₂ fun h₃ jo₃ k₃ => ?_)
  replace jo₃ : IsPair h₃ TO x b := jo₃
  refine wpAny_bind
      (wpAny_letGo (wpAny_pure ?_))

  refine wpAny_bind (wpAny_bind
      (wpAny_onRaise ?_))
  show wpAny _ _ (Builtin.SmallTypes.nextOf
      (.ref i2) >>= _) _ _ _
  refine wpAny_bind (wpAny_nextOf_list_item (((h2.extBut k₁.extBut Ap.i2z).extBut k₂.extBut Ap.i12.symm).extBut k₃.extBut Ap.TOi2.symm)
    (((lb.extBut k₁.extBut Ap.l2z).extBut k₂.extBut Ap.l2i1).extBut k₃.extBut Ap.l2TO) hy fun h₄ h2₄ k₄ => wpAny_pure ?_)
  have jo₄ : IsPair h₄ TO x b := k₄.extBut _ _ Ap.TOi2 jo₃
  refine wpAny_bind (wpAny_seqItems jo₄ rfl ?_)
  refine wpAny_bind (wpAny_updateSeq_pair jo₄ fun h₅ jo₅ k₅ => ?_)
  replace jo₅ : IsPair h₅ TO x y := jo₅
  refine wpAny_bind (wpAny_letGo
      (wpAny_pure (wpAny_pure ?_)))

  refine wpAny_bind (wpAny_seqItems jo₅ rfl ?_)
  refine wpAny_bind
      (wpAny_newTuple ?_)
  have hsz : h₅.objs.size = s.heap.objs.size := by rw [k₅.1, k₄.1, k₃.1, k₂.1, k₁.1]
  have y₅ : IsZip h₅ zz TI TO .ellipsis := k₅.extBut _ _ Ap.TOz.symm (k₄.extBut _ _ Ap.i2z.symm (k₃.extBut _ _ Ap.TOz.symm (k₂.extBut _ _ Ap.i1z.symm y₁)))
  have hk₅ : ∀ c o, c ≠ zz → c ≠ TO → c ≠ i1 → c ≠ i2 → s.heap.get? c = some o → h₅.get? c = some o := fun c o c1 c2 c3 c4 e =>
    k₅.extBut _ _ c2 (k₄.extBut _ _ c4 (k₃.extBut _ _ c2 (k₂.extBut _ _ c3 (k₁.extBut _ _ c1 e))))
  have h1₅ : h₅.IsTupleIter i1 l1 (k1 + 1) := ((h1₂.extBut k₃.extBut Ap.TOi1.symm).extBut k₄.extBut Ap.i12).extBut k₅.extBut Ap.TOi1.symm
  have h2₅ : h₅.IsListIter i2 l2 (k2 + 1) := h2₄.extBut k₅.extBut Ap.TOi2.symm
  have hzlt : zz < h₅.objs.size := Heap.lt_size y₅
  have jolt : TO < h₅.objs.size := Heap.lt_size jo₅
  have hi1lt :
      i1 < h₅.objs.size := by obtain ⟨_, e, _⟩ := h1₅; exact Heap.lt_size e
  have hi2lt :
      i2 < h₅.objs.size := by obtain ⟨_, e, _⟩ := h2₅; exact Heap.lt_size e
  show wpAny _ _ (Builtin.SmallTypes.ownedTupleHandOut (.ref zz) (.ref h₅.objs.size) >>= _) _ _ _
  refine wpAny_bind ?_
  (unfold Builtin.SmallTypes.ownedTupleHandOut)
  have y₆ : IsZip (h₅.push { cls := .type "tuple", data := .seq #[x, y] }) zz TI TO .ellipsis := Heap.get?_push_of_some _ y₅
  refine wpAny_bind (wpAny_setField_rec y₆ (by simp) fun h₇ y₇ k₇ => ?_)
  replace y₇ : IsZip h₇ zz TI TO (rawInt h₅.objs.size) := y₇
  refine wpAny_setField_rec y₇ (by simp) fun h₈ y₈ k₈ => ?_
  replace y₈ : IsZip h₈ zz TI TO (rawInt h₅.objs.size) := y₈
  have up : ∀ c o, c ≠ zz → h₅.get? c = some o → h₈.get? c = some o := fun c o c1 e => k₈.extBut _ _ c1 (k₇.extBut _ _ c1 (Heap.get?_push_of_some _ e))
  have hT₈ : IsPair h₈ h₅.objs.size x y := k₈.extBut _ _ (Nat.ne_of_gt hzlt) (k₇.extBut _ _ (Nat.ne_of_gt hzlt) (Heap.get?_push_size _ rfl))
  have hz8 : h₈.objs.size = h₅.objs.size + 1 := by rw [k₈.1, k₇.1, Heap.size_push]
  rw [hsz] at y₈ hT₈ hz8
  refine wpAny_pure
      ⟨_, rfl, ?_⟩
  show Q (.ref h₅.objs.size) _
  rw [hsz]
  exact out h₈ y₈ (up _ _ Ap.TOz jo₅) (h1₅.at fun o e => up _ o Ap.i1z e) (h2₅.at fun o e => up _ o Ap.i2z e) hT₈ hz8 fun c o c1 c2 c3 c4 e => up c o c1 (hk₅ c o c1 c2 c3 c4 e)

theorem zipM_next_end {zz TI TO i1 i2 l1 l2 : Addr} {k1 k2 : Nat} {xs ys : Array Value} {a b : Value} {Q : Fin → Shared → Prop} (hh : A.handled = none) (Ap : ZipApart zz TI TO i1 i2 l1 l2)
    (iz : IsZip s.heap zz TI TO .none) (ji : IsPair s.heap TI (.ref i1) (.ref i2)) (jo : IsPair s.heap TO a b)
    (h1 : s.heap.IsTupleIter i1 l1 k1) (h2 : s.heap.IsListIter i2 l2 k2) (la : s.heap.IsTuple l1 xs) (lb : s.heap.IsList l2 ys) (hend : xs[k1]? = none ∨ ys[k2]? = none)
    (bad : ∀ h' e, (∀ c o, c ≠ zz → c ≠ TO → c ≠ i1 → c ≠ i2 → s.heap.get? c = some o → h'.get? c = some o) → (∃ o, h'.get? e = some o ∧ o.cls = .type "StopIteration") → E (.ref e) { s with heap := h' }) :
    wpAny (model prog w) A (Builtin.«zip.__next__» ⟨[.ref zz], []⟩) Q E s := by
  show wpAny _ _ (field (.ref zz) 2 >>= _) _ _ _
  refine wpAny_bind (wpAny_field iz rfl (x := .bool false) rfl ?_)
  show wpAny _ _ (field (.ref zz) 3 >>= _) _ _ _
  refine wpAny_bind (wpAny_field iz rfl (x := .ref TI) rfl ?_)
  refine wpAny_bind (wpAny_seqItems ji rfl ?_)
  show wpAny _ _ (Builtin.SmallTypes.ownedTupleIsFree (.ref zz) >>= _) _ _ _
  refine wpAny_bind ?_
  (unfold Builtin.SmallTypes.ownedTupleIsFree)
  refine wpAny_bind (wpAny_field iz rfl (x := .none) rfl (wpAny_pure ?_))
  simp only [if_true]
  refine wpAny_bind
      (wpAny_rule ?_)
  refine wpAny_bind (wpAny_field iz rfl (x := .ref TO) rfl ?_)
  refine wpAny_bind (wpAny_setField_rec iz (by simp) fun h₁ y₁ k₁ => ?_)
  replace y₁ : IsZip h₁ zz TI TO .ellipsis := y₁
  refine wpAny_bind ?_
  simp only [List.forIn_cons, List.forIn_nil, List.zipIdx_cons, List.zipIdx_nil]
  refine wpAny_bind (wpAny_bind
      (wpAny_onRaise ?_))
  show wpAny _ _ (Builtin.SmallTypes.nextOf
      (.ref i1) >>= _) _ _ _
  cases hx : xs[k1]? with
  | none =>
    refine wpAny_bind (nextOf_tuple_end hh (h1.extBut k₁.extBut Ap.i1z) (la.extBut k₁.extBut Ap.l1z) hx fun h₂ e k₂ he => ?_)
    obtain ⟨oe, hoe, hce⟩ := he
    have y₂ : IsZip h₂ zz TI TO .ellipsis := k₂ _ _ Ap.i1z.symm y₁
    have hez : e ≠ zz := fun x => by subst x; rw [y₂] at hoe; cases hoe; simp at hce
    refine wpAny_setField_rec y₂ (by simp) fun h₃ _ k₃ => bad h₃ e (fun c o c1 _ c3 _ x => k₃.extBut _ _ c1 (k₂ _ _ c3 (k₁.extBut _ _ c1 x))) ⟨oe, k₃.extBut _ _ hez hoe, hce⟩
  | some x =>
    have hy : ys[k2]? = none := by exact hend.resolve_left (by rw [hx]; simp)
    refine wpAny_bind (nextOf_tuple_item (h1.extBut k₁.extBut Ap.i1z) (la.extBut k₁.extBut Ap.l1z) hx fun h₂ h1₂ k₂ => wpAny_pure ?_)
    have jo₂ : IsPair h₂ TO a b := k₂.extBut _ _ Ap.TOi1 (k₁.extBut _ _ Ap.TOz jo)
    refine wpAny_bind (wpAny_seqItems jo₂ rfl ?_)
    refine wpAny_bind (wpAny_updateSeq_pair jo₂ fun h₃ jo₃ k₃ => ?_)
    refine wpAny_bind
        (wpAny_letGo (wpAny_pure ?_))
    refine wpAny_bind (wpAny_bind
        (wpAny_onRaise ?_))
    show wpAny _ _ (Builtin.SmallTypes.nextOf
        (.ref i2) >>= _) _ _ _
    refine wpAny_bind (wpAny_nextOf_list_end hh (((h2.extBut k₁.extBut Ap.i2z).extBut k₂.extBut Ap.i12.symm).extBut k₃.extBut Ap.TOi2.symm)
      (((lb.extBut k₁.extBut Ap.l2z).extBut k₂.extBut Ap.l2i1).extBut k₃.extBut Ap.l2TO) hy fun h₄ e k₄ he => ?_)
    obtain ⟨oe, hoe, hce⟩ := he
    have y₄ : IsZip h₄ zz TI TO .ellipsis := k₄ _ _ Ap.i2z.symm (k₃.extBut _ _ Ap.TOz.symm (k₂.extBut _ _ Ap.i1z.symm y₁))
    have hez : e ≠ zz := fun x => by subst x; rw [y₄] at hoe; cases hoe; simp at hce
    refine wpAny_setField_rec y₄ (by simp) fun h₅ _ k₅ => bad h₅ e (fun c o c1 c2 c3 c4 x => k₅.extBut _ _ c1 (k₄ _ _ c4 (k₃.extBut _ _ c2 (k₂.extBut _ _ c3 (k₁.extBut _ _ c1 x))))) ⟨oe, k₅.extBut _ _ hez hoe, hce⟩

theorem pyNext_zipM_item {zz TI TO i1 i2 l1 l2 : Addr} {k1 k2 : Nat} {xs ys : Array Value} {x y a b : Value} {Q : Option Value → Shared → Prop} (Ap : ZipApart zz TI TO i1 i2 l1 l2)
    (iz : IsZip s.heap zz TI TO .none) (ji : IsPair s.heap TI (.ref i1) (.ref i2)) (jo : IsPair s.heap TO a b)
    (h1 : s.heap.IsTupleIter i1 l1 k1) (h2 : s.heap.IsListIter i2 l2 k2) (la : s.heap.IsTuple l1 xs) (lb : s.heap.IsList l2 ys) (hx : xs[k1]? = some x) (hy : ys[k2]? = some y)
    (out : ∀ h', IsZip h' zz TI TO (rawInt s.heap.objs.size) → IsPair h' TO x y → h'.IsTupleIter i1 l1 (k1 + 1) → h'.IsListIter i2 l2 (k2 + 1) → IsPair h' s.heap.objs.size x y → h'.objs.size = s.heap.objs.size + 1 →
      (∀ c o, c ≠ zz → c ≠ TO → c ≠ i1 → c ≠ i2 → s.heap.get? c = some o → h'.get? c = some o) → Q (some (.ref s.heap.objs.size)) { s with heap := h' }) :
    wpAny (model prog w) A (pyNext (.ref zz)) Q E s := by
  have hT : s.TypeIs (.ref zz) "zip" := ⟨_, iz, rfl⟩
  unfold pyNext
  exact wpAny_bind (wpAny_attempt (wpAny_callSpecial?_slot
      (name := Str.ofString "__next__") hT F.slot_zip_next
    (wpAny_call_entry F.slot_zip_next
        hT F.entry_zip_next
      (zipM_next_item Ap iz ji jo h1 h2 la lb hx hy fun h' a1 a2 a3 a4 a5 a6 a7 => wpAny_pure (out h' a1 a2 a3 a4 a5 a6 a7)) (F.args_zip_next_1 _))))

theorem pyNext_zipM_end {zz TI TO i1 i2 l1 l2 : Addr} {k1 k2 : Nat} {xs ys : Array Value} {a b : Value} {Q : Option Value → Shared → Prop} (hh : A.handled = none) (Ap : ZipApart zz TI TO i1 i2 l1 l2)
    (iz : IsZip s.heap zz TI TO .none) (ji : IsPair s.heap TI (.ref i1) (.ref i2)) (jo : IsPair s.heap TO a b)
    (h1 : s.heap.IsTupleIter i1 l1 k1) (h2 : s.heap.IsListIter i2 l2 k2) (la : s.heap.IsTuple l1 xs) (lb : s.heap.IsList l2 ys) (hend : xs[k1]? = none ∨ ys[k2]? = none)
    (out : ∀ h', (∀ c o, c ≠ zz → c ≠ TO → c ≠ i1 → c ≠ i2 → s.heap.get? c = some o → h'.get? c = some o) → Q none { s with heap := h' }) : wpAny (model prog w) A (pyNext (.ref zz)) Q E s := by
  have hT : s.TypeIs (.ref zz) "zip" := ⟨_, iz, rfl⟩
  unfold pyNext
  refine wpAny_bind (wpAny_attempt (wpAny_callSpecial?_slot
      (name := Str.ofString "__next__") hT F.slot_zip_next
    (wpAny_call_entry F.slot_zip_next hT F.entry_zip_next (zipM_next_end hh Ap iz ji jo h1 h2 la lb hend fun h' e hk he => ?_) (F.args_zip_next_1 _))))
  obtain ⟨o, ho, hc⟩ := he
  refine wpAny_bind (wpAny_isInstance (T := "StopIteration")
      (b := true) ⟨o, ho, hc⟩ isSubtype_stop ?_)
  exact wpAny_pure (out _ hk)
end

abbrev zipMH1 (h : Heap) (l1 : Addr) : Heap := h.push { cls := .type "tuple_iterator", data := .fields #[.ref l1, .int 0 0] }
abbrev zipMH2 (h : Heap) (l1 l2 : Addr) : Heap := (zipMH1 h l1).push { cls := .type "list_iterator", data := .fields #[.ref l2, .int 0 0] }
abbrev zipMH3 (h : Heap) (l1 l2 : Addr) : Heap := (zipMH2 h l1 l2).push { cls := .type "tuple", data := .seq #[.ref h.objs.size, .ref (zipMH1 h l1).objs.size] }
abbrev zipMH4 (h : Heap) (l1 l2 : Addr) : Heap := (zipMH3 h l1 l2).push { cls := .type "tuple", data := .seq #[.none, .none] }
abbrev zipMH5 (h : Heap) (l1 l2 : Addr) : Heap := (zipMH4 h l1 l2).push { cls := .type "zip", data := .fields #[.none, .bool false, .bool false, .ref (zipMH2 h l1 l2).objs.size, .ref (zipMH3 h l1 l2).objs.size] }

theorem meets_zipM_new (l1 l2 : Addr) (xs ys : Array Value) :
    Meets (Builtin.«zip.__new__» ⟨[.type "zip", .ref l1, .ref l2], []⟩) (fun _ R s => s.heap.IsTuple l1 xs ∧ s.heap.IsList l2 ys ∧
      R (.ok (.ret (.ref (zipMH4 s.heap l1 l2).objs.size))) { s with heap := zipMH5 s.heap l1 l2 }) :=
  .of_wp fun prog
      w A R s h => by
    obtain ⟨hp, g, d, tk, os⟩ := s; obtain ⟨la, lb, h⟩ := h
    have hsub := sub_zip
    have hL1 : Heap.IsTuple (Shared.heap ⟨hp, g, d, tk, os⟩) l1 xs := la
    have hL2 : Heap.IsList (Shared.heap ⟨hp.push { cls := .type "tuple_iterator", data := .fields #[.ref l1, .int 0 0] }, g, d, tk, os⟩) l2 ys := lb.push _
    wp_walk using wpAny_pyIter_tuple hL1, wpAny_pyIter_list hL2
    exact ⟨_, rfl, h⟩

section
variable {prog : Program} {w : World} {A :
    Around} {E : Value → Shared → Prop} {s : Shared}

theorem call_zipM {l1 l2 : Addr} {xs ys : Array Value} {Q : Value → Shared → Prop} (la : s.heap.IsTuple l1 xs) (lb : s.heap.IsList l2 ys)
    (h : ∀ h', IsZip h' (s.heap.objs.size + 4) (s.heap.objs.size + 2) (s.heap.objs.size + 3) .none
        → IsPair h' (s.heap.objs.size + 2) (.ref s.heap.objs.size) (.ref (s.heap.objs.size + 1)) →
      IsPair h' (s.heap.objs.size + 3) .none .none → h'.IsTupleIter s.heap.objs.size l1 0 → h'.IsListIter (s.heap.objs.size + 1) l2 0 → h'.objs.size = s.heap.objs.size + 5 →
      (∀ c o, s.heap.get? c = some o → h'.get? c = some o) →
          Q (.ref (s.heap.objs.size + 4)) { s with heap := h' }) :
    wpAny (model prog w) A (call (.type "zip")
        [.ref l1, .ref l2]) Q E s := by
  refine callType_new F.called_zip (by decide) (F.typeCall_zip_2 _ _)
      (F.newCall_zip_2 _ _) (fun obj => F.args_object_init_3 obj _ _) F.entry_zip_new
    (meets_zipM_new l1 l2 xs ys) ⟨la, lb, ?_⟩
  have z1 : (zipMH1 s.heap l1).objs.size = s.heap.objs.size + 1 := Heap.size_push ..
  have z2 : (zipMH2 s.heap l1 l2).objs.size = s.heap.objs.size + 2 := by rw [Heap.size_push, z1]
  have z3 : (zipMH3 s.heap l1 l2).objs.size = s.heap.objs.size + 3 := by rw [Heap.size_push, z2]
  have z4 : (zipMH4 s.heap l1 l2).objs.size = s.heap.objs.size + 4 := by rw [Heap.size_push, z3]
  have z5 : (zipMH5 s.heap l1 l2).objs.size = s.heap.objs.size + 5 := by rw [Heap.size_push, z4]
  have g5 : (zipMH5 s.heap l1 l2).get? (zipMH4 s.heap l1 l2).objs.size = some _ := Heap.get?_push_size _ rfl
  have g4 : (zipMH5 s.heap l1 l2).get? (zipMH3 s.heap l1 l2).objs.size = some _ := Heap.get?_push_of_some _ (Heap.get?_push_size _ rfl)
  have g3 : (zipMH5 s.heap l1 l2).get? (zipMH2 s.heap l1 l2).objs.size = some _ := Heap.get?_push_of_some _ (Heap.get?_push_of_some _ (Heap.get?_push_size _ rfl))
  have g2 : (zipMH5 s.heap l1 l2).get? (zipMH1 s.heap l1).objs.size = some _ := Heap.get?_push_of_some _ (Heap.get?_push_of_some _ (Heap.get?_push_of_some _ (Heap.get?_push_size _ rfl)))
  have g1 : (zipMH5 s.heap l1 l2).get? s.heap.objs.size = some _ := Heap.get?_push_of_some _ (Heap.get?_push_of_some _ (Heap.get?_push_of_some _ (Heap.get?_push_of_some _ (Heap.get?_push_size _ rfl))))
  show _ ∧ _
  rw [z2, z3, z4] at g5
  rw [z1, z2] at g3
  rw [z3] at g4
  rw [z1] at g2
  rw [z4]
  exact ⟨⟨_, g5, rfl⟩, h _ g5 g3 g4 ⟨_, g1,
      rfl, rfl⟩ ⟨_, g2, rfl, rfl⟩ z5 fun c o x =>
    Heap.get?_push_of_some _ (Heap.get?_push_of_some _ (Heap.get?_push_of_some
        _ (Heap.get?_push_of_some _ (Heap.get?_push_of_some _ x))))⟩
end
/-- a tuple and a list as they stand at each turn, the items in new pairs -/
def ItzM (K : PySem.W.Frag) (a b : Addr) : It :=
  ⟨fun i H => ∃ (xs ys : List V) (x y : V), SqT K H a xs ∧ SqL K H b ys ∧ xs[i]? = some x ∧ ys[i]? = some y,
    fun i H v H' => ∃ T x y, v = .ref T ∧ H T = none ∧ H' = upd H T (.tup [x, y]) ∧ (∀ xs, SqT K H a xs → xs[i]? = some x) ∧ ∀ ys, SqL K H b ys → ys[i]? = some y,
    fun i H => ∃ xs ys : List V, SqT K H a xs ∧ SqL K H b ys ∧ (xs.length ≤ i ∨ ys.length ≤ i)⟩
theorem turn_zipM {P : Program} {w : World} {K : PySem.W.Frag} {elts : List Expr} {kk : Nat} {tpos : Pos} {a b zz TI TO i1 i2 : Addr} (Ap : ZipApart zz TI TO i1 i2 a b) :
    Turn P w K (.Tuple elts kk tpos) (ItzM K a b) [zz, TI, TO, i1, i2] zz (fun i h => IsZip h zz TI TO .none ∧ IsPair h TI (.ref i1) (.ref i2) ∧ (∃ x y, IsPair h TO x y) ∧ h.IsTupleIter i1 a i ∧ h.IsListIter i2 b i) where
  mem := by simp
  obj := fun i h st c hc => by
    obtain ⟨iz, ji, ⟨x, y, jo⟩, ⟨o1, e1, _, d1⟩, ⟨o2, e2, _, d2⟩⟩ := st
    have e' : c = zz ∨ c = TI ∨ c = TO ∨ c = i1 ∨ c = i2 := by simpa using hc
    rcases e' with
        q | q | q | q | q
    · rw [q]; exact ⟨_, iz, fun v q => nomatch q⟩
    · rw [q]; exact ⟨_, ji, fun v q => nomatch q⟩
    · rw [q]; exact ⟨_, jo, fun v q => nomatch q⟩
    · rw [q];
        exact ⟨o1, e1, fun v q => by rw [d1] at q; cases q⟩
    · rw [q];
        exact ⟨o2, e2, fun v q => by rw [d2] at q; cases q⟩
  keep := fun i h h' st k => by
    obtain ⟨iz, ji, ⟨x, y, jo⟩, h1, h2⟩ := st
    exact ⟨k zz (by simp) _ iz, k TI (by simp) _ ji, ⟨x, y, k TO (by simp) _ jo⟩, h1.at fun o q => k i1 (by simp) o q, h2.at fun o q => k i2 (by simp) o q⟩
  item := by
    intro X hP hw hK hc i
        pins s σ H E I hf st hg
    subst hP hw hK
    obtain ⟨iz, ji, ⟨x0, y0, jo⟩, h1, h2⟩ := st
    obtain ⟨xs, ys, x, y,
        hqx, hqy, hx, hy⟩ := hg
    obtain ⟨its, rv, p,
        _⟩ := I.tuple hqx
    obtain ⟨its2, rv2,
        p2, _⟩ := I.list hqy
    obtain ⟨u, hu,
        ru⟩ := rv.get hx
    obtain ⟨u2, hu2,
        ru2⟩ := rv2.get hy
    have hzl : zz < s.heap.objs.size := Heap.lt_size iz
    refine pyNext_zipM_item Ap iz ji jo h1 h2 p p2.isList (x := u) (y := u2) (by simpa using hu) (by simpa using hu2) fun h' zz' TO' h1' h2' hT hsz hk => ?_
    refine ⟨_, rfl, wpAny_letOwnedTupleGo_zip (s := { s with heap := h' }) zz' fun h'' zz'' sb => ?_⟩
    have hT2 :
        h''.get? s.heap.objs.size = some { cls := .type "tuple", data := .seq #[u, u2] } := (sb.2 _ (Nat.ne_of_gt hzl)).trans hT
    have new :
        ObjOk X.prog X.w (upd H s.heap.objs.size (.tup [x, y])) h'' s.heap.objs.size (.tup [x, y]) :=
      ⟨by show 2 ≤ sizeLine; decide, [u, u2], .cons
          ru (.cons ru2 .nil), ⟨_, hT2, rfl, _, rfl⟩⟩
    have I1 : Inv
        X pins σ (upd H s.heap.objs.size (.tup [x, y])) { s with heap := h'' } :=
      I.turnedNew (t' := s.toks) (ch := [zz, TI, TO, i1, i2]) (fun c o hb q => (sb.2 c (fun q' => hb (by simp [q']))).trans (hk c o (fun q' => hb (by simp [q'])) (fun q' => hb (by simp [q'])) (fun q' => hb (by simp [q'])) (fun q' => hb (by simp [q'])) q)) hf (Nat.le_refl _) new
    refine ⟨.ref s.heap.objs.size, _, I1, rfl, ⟨_, x, y, rfl, I.hok.fresh (Nat.le_refl _), rfl, fun l hl => by rw [I.tuple_inj hl hqx]; exact hx, fun l hl => by rw [I.list_inj hl hqy]; exact hy⟩, ⟨zz'', ?_, ⟨u, u2, ?_⟩, ?_, ?_⟩, fun c hcm => ?_⟩
    · exact (sb.2 _ Ap.TIz).trans (hk _ _ Ap.TIz Ap.TITO Ap.TIi1 Ap.TIi2 ji)
    · exact (sb.2 _ Ap.TOz).trans TO'
    · exact h1'.at fun o q => (sb.2 _ Ap.i1z).trans q
    · exact h2'.at fun o q => (sb.2 _ Ap.i2z).trans q
    · have hlt :
        c < s.heap.objs.size := by
        have e' : c = zz ∨ c = TI ∨ c = TO ∨ c = i1 ∨ c = i2 := by simpa using hcm
        rcases e' with
            q | q | q | q | q
        · rw [q]; exact hzl
        · rw [q]; exact Heap.lt_size ji
        · rw [q]; exact Heap.lt_size jo
        · rw [q];
            obtain ⟨_, e1, _⟩ := h1; exact Heap.lt_size e1
        · rw [q];
            obtain ⟨_, e2, _⟩ := h2; exact Heap.lt_size e2
      rw [upd_ne
          (Nat.ne_of_lt hlt)]
      exact (hf c hcm).1
  done := by
    intro X hP hw hK hc i
        pins s σ H E I hf st hg
    subst hP hw hK
    obtain ⟨iz, ji, ⟨x0, y0, jo⟩, h1, h2⟩ := st
    obtain ⟨xs, ys, hqx,
        hqy, hend⟩ := hg
    obtain ⟨its, rv, p,
        _⟩ := I.tuple hqx
    obtain ⟨its2, rv2,
        p2, _⟩ := I.list hqy
    have l1 := rv.length
    have l2 := rv2.length
    have he :
        its.toArray[i]? = none ∨ its2.toArray[i]? = none := by
      rcases hend with q | q
      · exact .inl (by simp; omega)
      · exact .inr (by simp; omega)
    exact pyNext_zipM_end (I.ok.hd hc) Ap iz ji jo h1 h2 p p2.isList he fun h' hk => ⟨rfl, I.turnedL (t' := s.toks) (ch := [zz, TI, TO, i1, i2]) (fun c o hb q =>
      hk c o (fun q' => hb (by simp [q'])) (fun q' => hb (by simp [q']))
          (fun q' => hb (by simp [q'])) (fun q' => hb (by simp [q'])) q) hf⟩
  self := fun A i s Q E st h
      => wpAny_pyIter_zip st.1 h


end RZ
namespace ME
open PySem PySem.Spec PyProof.Rows L2
def iZipR (K : PySem.W.Frag) (ta : TA) : TI := fun σ H R => ta σ H fun vs H1 => ∃ a b xs ys, vs = [.ref a, .ref b] ∧ SqT K H1 a xs ∧ ((SqL K H1 b ys ∧ R (RZ.ItzM K a b) H1) ∨ (SqT K H1 b ys ∧ R (RZ.ItzT K a b) H1))
theorem pi_zipR {X : Cx} {e e2 : Expr} {ta : TA} {p pos tpos : Pos} {elts : List Expr} {kk : Nat} (hg : Gl X "zip") (hm : X.mg "zip" = none) (ha : PA X [e, e2] ta) (hs : starEach [e, e2] X.env = (false, eval e X.env) :: starEach [e2] X.env) (hpl : (backTo pos (starEach [e2] X.env)).any (·.1) = false) :
    PI X (.Tuple elts kk tpos) (.Call (.Name "zip" p) [e, e2] [] pos) (iZipR X.K ta) := by
  refine ⟨fun pins s σ H R I h => Call_ (ld_blt I hg hm PyProof.Rows.boot_zip (PyProof.Rows.callWith_type1 (thn (ha.run pos pins s σ H _ I h) fun us s1 ⟨vs, H1, I1, r1, q1⟩ => ?_) hs hpl))⟩
  obtain ⟨a, b, xs, ys, rfl, hqx, q1⟩ := q1
  cases r1 with
  | cons r rr =>
    cases rr with
    | cons r' rr =>
      cases rr
      cases r
      cases r'
      have five : ∀ c, c ∈ [s1.heap.objs.size + 4, s1.heap.objs.size + 2, s1.heap.objs.size + 3, s1.heap.objs.size, s1.heap.objs.size + 1] → FpOk X pins H1 c := fun c hcm => by
        have hle : s1.heap.objs.size ≤ c := by
          simp only [List.mem_cons, List.not_mem_nil, or_false] at hcm
          rcases hcm with z | z | z | z | z <;> rw [z] <;> omega
        exact I1.fpOk hle (I1.hok.fresh hle)
      obtain ⟨its, rv, p1, _⟩ := I1.tuple hqx
      obtain ⟨o1, ho1, _⟩ := id p1
      rcases q1 with ⟨hqy, q⟩ | ⟨hqy, q⟩
      · obtain ⟨its2, rv2, p2, _⟩ := I1.list hqy
        refine RZ.call_zipM (show s1.heap.IsTuple a its.toArray from p1) p2.isList fun h' jz jI jO h1 h2 hsz hk => wpAny_pyIter_zip jz ?_
        have I2 : Inv X pins σ H1 { s1 with heap := h' } := I1.kept (t' := s1.toks) hk
        exact ⟨_, _, _, _, H1, rfl, I2, RZ.turn_zipM (PySem.W.ktu_apart s1.heap.objs.size a b (Heap.lt_size ho1) p2.lt), ⟨jz, jI, ⟨_, _, jO⟩, h1, h2⟩, five, q⟩
      · obtain ⟨its2, rv2, p2, _⟩ := I1.tuple hqy
        obtain ⟨o2, ho2, _⟩ := id p2
        refine RZ.call_zipT (show s1.heap.IsTuple a its.toArray from p1) (show s1.heap.IsTuple b its2.toArray from p2) fun h' jz jI jO h1 h2 hsz hk => wpAny_pyIter_zip jz ?_
        have I2 : Inv X pins σ H1 { s1 with heap := h' } := I1.kept (t' := s1.toks) hk
        exact ⟨_, _, _, _, H1, rfl, I2, RZ.turn_zipT (PySem.W.ktu_apart s1.heap.objs.size a b (Heap.lt_size ho1) (Heap.lt_size ho2)), ⟨jz, jI, ⟨_, _, jO⟩, h1, h2⟩, five, q⟩
def iZipX (e : AX) : DS → M (List D) := fun δ => (e δ).bnd fun d => match d with
  | [.tup l, .lst r] => M.ret (zipD l r)
  | [.tup l, .tup r] => M.ret (zipD l r)
  | _ => M.stuck
section
variable {X : Cx} {m : Am} {e e2 : Expr} {ra : AX} {p pos tpos : Pos} {elts : List Expr} {kk j : Nat}
theorem mi_zipX (hK : X.K = m.S.K) (hm : X.mg "zip" = none) (hg : gloB X.env.scope "zip" = true) (ha : PA X [e, e2] (tAs m ra)) (hs : starEach [e, e2] X.env = (false, eval e X.env) :: starEach [e2] X.env := by rfl) (hpl : (backTo pos (starEach [e2] X.env)).any (·.1) = false := by rfl) :
    PI X (.Tuple elts kk tpos) (.Call (.Name "zip" p) [e, e2] [] pos) (tI m (iZipX ra)) := by
  refine PI.imp (pi_zipR (gl_of hg) hm ha hs hpl) fun σ H R h => ?_
  refine (tY_bind (R1 := m.rA) r0_mono h).imp fun xs H1 h2 => ?_
  obtain ⟨G, pn, δ, ⟨_, ds⟩, w, sl, ⟨_, r⟩, h5⟩ := h2
  have r : Reps m.S G m.pen xs ds := r
  rw [hK]
  dsimp only at h5
  split at h5
  · cases r with
    | cons r1 r2 =>
      cases r2 with
      | cons r2 r3 =>
        cases r3
        cases r1 with
        | @tup a vs l hl rr =>
          cases r2 with
          | @lst b us l2 hl2 rr2 =>
            refine ⟨a, b, vs, us, rfl, w.sub.sqt hl, .inl ⟨.of (w.sub _ _ hl2), h5 _ G H1 Ex.refl w ?_⟩⟩
            intro G' H' p' s' w'
            have k1 : SqT m.S.K H' a vs := w'.sub.sqt (s'.sqt hl)
            have k2 : SqL m.S.K H' b us := .of (w'.sub _ _ (s' _ _ hl2))
            refine ⟨fun i d e => ?_, fun i hi => ⟨vs, us, k1, k2, by rw [rr.length, rr2.length]; rw [zipD_len] at hi; omega⟩⟩
            obtain ⟨d1, d2, e1, e2, rfl⟩ := zipD_get e
            obtain ⟨v, ev, rv⟩ := rr.get e1
            obtain ⟨u, eu, ru⟩ := rr2.get e2
            refine ⟨⟨vs, us, v, u, k1, k2, ev, eu⟩, fun y H2 ⟨T, x, z, e2, hT, eH, q, q2⟩ => ?_⟩
            subst e2 eH
            have : some v = some x := ev.symm.trans (q vs k1)
            cases this
            have : some u = some z := eu.symm.trans (q2 us k2)
            cases this
            exact pair_new w' hT (rv.mono s') (ru.mono s')
  · cases r with
    | cons r1 r2 =>
      cases r2 with
      | cons r2 r3 =>
        cases r3
        cases r1 with
        | @tup a vs l hl rr =>
          cases r2 with
          | @tup b us l2 hl2 rr2 =>
            refine ⟨a, b, vs, us, rfl, w.sub.sqt hl, .inr ⟨w.sub.sqt hl2, h5 _ G H1 Ex.refl w ?_⟩⟩
            intro G' H' p' s' w'
            have k1 : SqT m.S.K H' a vs := w'.sub.sqt (s'.sqt hl)
            have k2 : SqT m.S.K H' b us := w'.sub.sqt (s'.sqt hl2)
            refine ⟨fun i d e => ?_, fun i hi => ⟨vs, us, k1, k2, by rw [rr.length, rr2.length]; rw [zipD_len] at hi; omega⟩⟩
            obtain ⟨d1, d2, e1, e2, rfl⟩ := zipD_get e
            obtain ⟨v, ev, rv⟩ := rr.get e1
            obtain ⟨u, eu, ru⟩ := rr2.get e2
            refine ⟨⟨vs, us, v, u, k1, k2, ev, eu⟩, fun y H2 ⟨T, x, z, e2, hT, eH, q, q2⟩ => ?_⟩
            subst e2 eH
            have : some v = some x := ev.symm.trans (q vs k1)
            cases this
            have : some u = some z := eu.symm.trans (q2 us k2)
            cases this
            exact pair_new w' hT (rv.mono s') (ru.mono s')
  · exact h5.elim
end
end ME

/-! isinstance(x, (T, U)), T and U built-in types. -/
namespace ME
open PySem PySem.Spec PyProof.Rows L2
def dIsi2 (n n2 : String) (d : D) : M D := match tyName d with
  | some a => if tyGoals.contains n && tyGoals.contains n2 then M.ret (.bl (subB a n || subB a n2)) else M.stuck
  | none => M.stuck
section
variable {X : Cx} {m : Am} {j : Nat} {e : Expr} {ea : EX} {p p1 p2 p3 pos : Pos} {k1 : _}
theorem me_isi2 {x y : Str} {n n2 : String} (B : Bx X m j) (hm : X.mg "isinstance" = none) (hg : gloB X.env.scope "isinstance" = true) (he : PE X e (tE m ea)) (gx : gloB X.env.scope x = true) (mx : X.mg x = none) (vx : bootBuiltins x = some (.type n)) (gy : gloB X.env.scope y = true) (my : X.mg y = none) (vy : bootBuiltins y = some (.type n2))
    (nx : x ≠ "__name__" := by decide) (dx : (x == ("__debug__" : Str)) = false := by decide) (ny : y ≠ "__name__" := by decide) (dy : (y == ("__debug__" : Str)) = false := by decide)
    (h1 : starEach [e, .Tuple [.Name x p1, .Name y p2] k1 p3] X.env = (false, eval e X.env) :: starEach [.Tuple [.Name x p1, .Name y p2] k1 p3] X.env := by rfl) (h2 : starEach [.Tuple [.Name x p1, .Name y p2] k1 p3] X.env = (false, eval (.Tuple [.Name x p1, .Name y p2] k1 p3) X.env) :: starEach [] X.env := by rfl)
    (h3 : starEach [.Name x p1, .Name y p2] X.env = (false, eval (.Name x p1) X.env) :: starEach [.Name y p2] X.env := by rfl) (h4 : starEach [.Name y p2] X.env = (false, eval (.Name y p2) X.env) :: starEach [] X.env := by rfl)
    (hpl : (backTo pos (starEach [.Tuple [.Name x p1, .Name y p2] k1 p3] X.env)).any (·.1) = false := by rfl) :
    PE X (.Call (.Name "isinstance" p) [e, .Tuple [.Name x p1, .Name y p2] k1 p3] [] pos) (tE m (mUn (dIsi2 n n2) ea)) := by
  have tx : PE X (.Name x p1) (tC (.ty n)) := pe_bltn (v := .ty n) (gl_of gx) mx vx rfl nx dx
  have ty : PE X (.Name y p2) (tC (.ty n2)) := pe_bltn (v := .ty n2) (gl_of gy) my vy rfl ny dy
  refine PE.imp (pe_callB call_isiT (gl_of hg) hm (by kernel_rfl) (pa_cons he (pa_cons (pe_tup (pa_cons tx (pa_cons ty pa_nil h4) h3)) pa_nil h2) h1) (by decide) (by decide) h1 hpl) fun σ H Q h => ?_
  refine (tY_bind (R1 := m.rE) r0_mono h).imp fun v H1 h2 => ?_
  obtain ⟨G, pn, δ, ⟨_, d⟩, w, sl, ⟨_, r⟩, h5⟩ := h2
  have r : Rep m.S G m.pen v d := r
  refine ⟨by rw [sizeLine_eq]; exact (by decide : 2 ≤ 16777216), fun a ha => ?_⟩
  dsimp only [dIsi2] at h5
  cases et : tyName d with
  | none => rw [et] at h5; exact h5.elim
  | some t =>
    rw [et] at h5
    dsimp only at h5
    split at h5
    · rename_i hn
      simp only [Bool.and_eq_true] at hn
      have w' : Wd m.S m.pen G (upd H1 a (.tup [.ty n, .ty n2])) pn := w.allocM ha
      have tyx := tyX_of (m := m) w' r et
      have e1 : PySem.W.kitOne m.S.K (.type t) (.type n) = some (subB t n) := kit_ty (kit_all t (tyName_in et) n (List.contains_iff_mem.mp hn.1))
      have e2 : PySem.W.kitOne m.S.K (.type t) (.type n2) = some (subB t n2) := kit_ty (kit_all t (tyName_in et) n2 (List.contains_iff_mem.mp hn.2))
      rw [B.hK]
      refine ⟨v, a, [.ty n, .ty n2], .type t, [.type n, .type n2], subB t n || subB t n2, rfl, upd_same, .cons (.ty n) (.cons (.ty n2) .nil), tyx, ?_, ?_⟩
      · unfold PySem.W.kitAny
        rw [e1]
        cases subB t n with
        | true => rfl
        | false =>
          dsimp only
          unfold PySem.W.kitAny
          rw [e2]
          cases subB t n2 <;> rfl
      · exact h5 (.bl _) G _ (Ex.allocM ha) w' (.bl _)
    · exact h5.elim
end
end ME

namespace Lw
open PySem PySem.Spec PyProof.Rows L2 ME

def top (i : Nat) : Stmt := PySem.Challenge.pw_emptypulls_k17_texts_of_tours.main.body.getD i (.Pass ⟨0, 0, 0, 0⟩)
/-! ### the classes -/
def clsN : List Str := ["PullError", "BadInput", "BadName", "BadTrip", "BadTour", "BadText", "Refused", "Unbalanced", "TooMany", "Trip", "Tour"]
def nmL : List (List Str) := [[], [], ["value"], ["part"], ["part"], ["line", "word"], [], ["yard"], ["what", "most"], ["start", "goal", "price"], ["own_trips", "own_yards"]]
def lamQ : List Str := [(("_law_right" : Str) ++ ".<locals>.") ++ "<lambda>"]
def sg (K : PySem.W.Frag) (cs : List Addr) (tb : List (Addr × Addr)) : Sg := ⟨K, fun c => nmL.getD c [], fun c => cs.getD c 0, (tb.map (·.2)).zip lamQ⟩
def upL : List (List Nat) := [[0], [1, 0], [2, 1, 0], [3, 1, 0], [4, 1, 0], [5, 1, 0], [6, 0], [7, 6, 0], [8, 6, 0], [9], [10]]
def isT : IsT := ⟨[10, 9], [0, 1, 2, 3, 4, 5, 6, 7, 8], ["int", "str", "bool", "list", "tuple"], fun c d => (upL.getD c []).contains d, fun c n => if ([10, 9] : List Nat).contains c then n == "object" else (["ValueError", "Exception", "BaseException", "object"] : List String).contains n⟩
def blts : List Str := ["abs", "all", "bool", "enumerate", "int", "isinstance", "iter", "len", "list", "min", "range", "set", "sorted", "str", "tuple", "zip"]
def ex0 : List Nat := [0, 1, 6]
def cnL : List (Str × Cn) := [("LONGEST_NAME", (.i 8)), ("LETTERS", (.s "abcdefghijklmnopqrstuvwxyz")), ("LEAST_TRIPS", (.i 2)), ("MOST_TRIPS", (.i 12)), ("MOST_YARDS", (.i 6)), ("FIGURES", (.s "0123456789")), ("FIGURES_OF_PRICE", (.i 2))]
/-! ### what is known of the top -/
structure Tp (K : PySem.W.Frag) (mg : Str → Option Value) (cs : List Addr) (tb : List (Addr × Addr)) : Prop where
  bn : ∀ x, blts.contains x = true → mg x = none
  cm : ∀ (c : Nat) (x : Str), ixB clsN c x = true → mg x = some (.ref (cs.getD c 0))
  cn : ∀ (i : Nat) (x : Str) (c : Cn), cnL[i]? = some (x, c) → CnAt mg x c
  xc : ∀ c, isT.xs.contains c = true → xcB K (cs.getD c 0) = true
  ex0 : ∀ c, ex0.contains c = true → PySem.W.excIn K (cs.getD c 0) [.type "ValueError", .type "Exception", .type "BaseException", .type "object"] "ValueError.__new__" = true
  noa : ∀ c, isT.xs.contains c = true → noAt K (cs.getD c 0) (nmL.getD c []) = true
  isf : IsF (sg K cs tb) isT
  tbs : tbsB tb lamQ = true
  b0 : (conB K (sg K cs tb) 9 "MOST" (.i 99)) = true
  b1 : (putB K (sg K cs tb) 9 0 "start") = true
  b2 : (putB K (sg K cs tb) 9 1 "goal") = true
  b3 : (putB K (sg K cs tb) 9 2 "price") = true
  b4 : ((PySem.W.makesIn K (cs.getD 9 0) && PySem.W.keepIn K (.ref (cs.getD 9 0)))) = true
  b5 : (fldO K (sg K cs tb) "start" [(9, 0)]) = true
  b6 : (fldO K (sg K cs tb) "goal" [(9, 1)]) = true
  b7 : (putB K (sg K cs tb) 10 0 "own_trips") = true
  b8 : (putB K (sg K cs tb) 10 1 "own_yards") = true
  b9 : ((PySem.W.makesIn K (cs.getD 10 0) && PySem.W.keepIn K (.ref (cs.getD 10 0)))) = true
  b10 : (fldO K (sg K cs tb) "own_trips" [(10, 0)]) = true
  b11 : (fldO K (sg K cs tb) "price" [(9, 2)]) = true
  b12 : (nfB K (sg K cs tb) [9] [9]) = true
  b13 : (nfB K (sg K cs tb) [10, 9] [10, 9]) = true
  b14 : (neB K (sg K cs tb) [10, 9]) = true
  b15 : (bopB K (sg K cs tb) [10] [10, 9] "rshift") = true
  b16 : (exmB K (sg K cs tb).ca isT 0) = true
  b17 : (fldB K (sg K cs tb) "line" [(5, 0)]) = true
  b18 : (fldB K (sg K cs tb) "word" [(5, 1)]) = true
  b19 : (ccB K (cs.getD 9 0) "MOST" (.i 99)) = true
  b20 : (clsB K (cs.getD 10 0)) = true
  b21 : (clsB K (cs.getD 9 0)) = true
  b22 : (itB K (sg K cs tb) 10 0 "own_trips") = true
  xi2 : XinAt K (cs.getD 2 0) "BadName.__init__" (inClass (top 12) 0)
  xi3 : XinAt K (cs.getD 3 0) "BadTrip.__init__" (inClass (top 13) 0)
  xi4 : XinAt K (cs.getD 4 0) "BadTour.__init__" (inClass (top 14) 0)
  xi5 : XinAt K (cs.getD 5 0) "BadText.__init__" (inClass (top 15) 0)
  xi7 : XinAt K (cs.getD 7 0) "Unbalanced.__init__" (inClass (top 17) 0)
  xi8 : XinAt K (cs.getD 8 0) "TooMany.__init__" (inClass (top 18) 0)
  d_law_pen : DefW K mg "_law_pen" (top 35) []
  dis_name : DefW K mg "is_name" (top 7) []
  dis_integer : DefW K mg "is_integer" (top 5) []
  dis_between : DefW K mg "is_between" (top 6) []
  wTrip___init__ : MemW K (cs.getD 9 0) "__init__" "Trip.__init__" (inClass (top 23) 1) [.int 1]
  dyards_of : DefW K mg "yards_of" (top 28) []
  dneed_trips : DefW K mg "need_trips" (top 29) []
  dneed_balance : DefW K mg "need_balance" (top 30) []
  wTour___init__ : MemW K (cs.getD 10 0) "__init__" "Tour.__init__" (inClass (top 33) 0) []
  dends_told : DefW K mg "ends_told" (top 21) []
  dcount_in : DefW K mg "count_in" (top 8) [.non]
  dprice_told : DefW K mg "price_told" (top 22) []
  dprice_at : DefW K mg "price_at" (top 31) []
  dtrips_in : DefW K mg "trips_in" (top 32) []
  wTour_read : CmW K (cs.getD 10 0) "read" "Tour.read" (inClass (top 33) 1) []
  d_law_words : DefW K mg "_law_words" (top 39) []
  d_law_tour : DefW K mg "_law_tour" (top 41) []
  wTrip___str__ : MemW K (cs.getD 9 0) "__str__" "Trip.__str__" (inClass (top 23) 7) []
  wTour___str__ : MemW K (cs.getD 10 0) "__str__" "Tour.__str__" (inClass (top 33) 21) []
  wTrip___eq__ : MemW K (cs.getD 9 0) "__eq__" "Trip.__eq__" (inClass (top 23) 6) []
  wTour___eq__ : MemW K (cs.getD 10 0) "__eq__" "Tour.__eq__" (inClass (top 33) 20) []
  wTour___rshift__ : MemW K (cs.getD 10 0) "__rshift__" "Tour.__rshift__" (inClass (top 33) 19) []
  d_law_rows : DefW K mg "_law_rows" (top 42) []
  wTrip___invert__ : MemW K (cs.getD 9 0) "__invert__" "Trip.__invert__" (inClass (top 23) 5) []
  wTour___invert__ : MemW K (cs.getD 10 0) "__invert__" "Tour.__invert__" (inClass (top 33) 18) []
  d_law_draw : DefW K mg "_law_draw" (top 36) []
  d_law_pick : DefW K mg "_law_pick" (top 37) []
  d_law_plan : DefW K mg "_law_plan" (top 38) []
  d_law_heard : DefW K mg "_law_heard" (top 43) []
  d_law_right : DefC K mg "_law_right" (top 44) [] (tb.getD 0 (0, 0)).1
  wTour_priced : MemW K (cs.getD 10 0) "priced" "Tour.priced" (inClass (top 33) 8) []
  wTrip_priced : MemW K (cs.getD 9 0) "priced" "Trip.priced" (inClass (top 23) 3) []
  dlaw : DefW K mg "law" (top 45) []
  wTour___iter__ : MemW K (cs.getD 10 0) "__iter__" "Tour.__iter__" (inClass (top 33) 11) []
section
variable {P : Program} {w : World} {K : PySem.W.Frag} {mg : Str → Option Value} {base : Heap} {cs : List Addr} {tb : List (Addr × Addr)}
def itL : List (Nat × Nat) := [(10, 0)]
theorem itab (T : Tp K mg cs tb) : ∀ c kf, itL.lookup c = some kf → IterT P w K mg base (sg K cs tb) 1 c kf := by
  obtain ⟨f10, fd10, F10, h110, h210, h310⟩ := T.wTour___iter__
  exact (tab1 ⟨f10, fn_iter (fld := "own_trips") F10 (scpB_of (by kernel_rfl)) rfl T.b22 (T.bn _ (by kernel_rfl)) (by kernel_rfl) (fun s kV doc pm an cdv ct u => .of_eq (by kernel_rfl)), h110, h210⟩)
theorem xt_2_1 (T : Tp K mg cs tb) : XT P w K mg base (sg K cs tb) 2 "BadName" 1 [] [] [.p 0] :=
  xt1 T.xi2 (T.xc 2 (by kernel_rfl)) (T.noa 2 (by kernel_rfl)) (T.cm 2 _ (by kernel_rfl)) rfl (by kernel_rfl) rfl (by kernel_rfl) (fun _ => rfl) (fun s kV doc pm an cdv ct us ws h1 h2 => match us, ws, h1, h2 with | [_, _], [], _, _ => .of_eq (by kernel_rfl)) (by kernel_rfl)
theorem xt_3_1 (T : Tp K mg cs tb) : XT P w K mg base (sg K cs tb) 3 "BadTrip" 1 [] [] [.p 0] :=
  xt1 T.xi3 (T.xc 3 (by kernel_rfl)) (T.noa 3 (by kernel_rfl)) (T.cm 3 _ (by kernel_rfl)) rfl (by kernel_rfl) rfl (by kernel_rfl) (fun _ => rfl) (fun s kV doc pm an cdv ct us ws h1 h2 => match us, ws, h1, h2 with | [_, _], [], _, _ => .of_eq (by kernel_rfl)) (by kernel_rfl)
theorem xt_4_1 (T : Tp K mg cs tb) : XT P w K mg base (sg K cs tb) 4 "BadTour" 1 [] [] [.p 0] :=
  xt1 T.xi4 (T.xc 4 (by kernel_rfl)) (T.noa 4 (by kernel_rfl)) (T.cm 4 _ (by kernel_rfl)) rfl (by kernel_rfl) rfl (by kernel_rfl) (fun _ => rfl) (fun s kV doc pm an cdv ct us ws h1 h2 => match us, ws, h1, h2 with | [_, _], [], _, _ => .of_eq (by kernel_rfl)) (by kernel_rfl)
theorem xt_8_2 (T : Tp K mg cs tb) : XT P w K mg base (sg K cs tb) 8 "TooMany" 2 [] [] [.p 0, .p 1] :=
  xt2 T.xi8 (T.xc 8 (by kernel_rfl)) (T.noa 8 (by kernel_rfl)) (T.cm 8 _ (by kernel_rfl)) rfl (by kernel_rfl) (by kernel_rfl) rfl (by kernel_rfl) (by kernel_rfl) (fun _ => rfl) (fun _ => rfl) (fun s kV doc pm an cdv ct us ws h1 h2 => match us, ws, h1, h2 with | [_, _, _], [], _, _ => .of_eq (by kernel_rfl)) (by kernel_rfl)
theorem xt_7_1 (T : Tp K mg cs tb) : XT P w K mg base (sg K cs tb) 7 "Unbalanced" 1 [] [] [.p 0] :=
  xt1 T.xi7 (T.xc 7 (by kernel_rfl)) (T.noa 7 (by kernel_rfl)) (T.cm 7 _ (by kernel_rfl)) rfl (by kernel_rfl) rfl (by kernel_rfl) (fun _ => rfl) (fun s kV doc pm an cdv ct us ws h1 h2 => match us, ws, h1, h2 with | [_, _], [], _, _ => .of_eq (by kernel_rfl)) (by kernel_rfl)
theorem xt_5_2 (T : Tp K mg cs tb) : XT P w K mg base (sg K cs tb) 5 "BadText" 2 [] [] [.p 0, .p 1] :=
  xt2 T.xi5 (T.xc 5 (by kernel_rfl)) (T.noa 5 (by kernel_rfl)) (T.cm 5 _ (by kernel_rfl)) rfl (by kernel_rfl) (by kernel_rfl) rfl (by kernel_rfl) (by kernel_rfl) (fun _ => rfl) (fun _ => rfl) (fun s kV doc pm an cdv ct us ws h1 h2 => match us, ws, h1, h2 with | [_, _, _], [], _, _ => .of_eq (by kernel_rfl)) (by kernel_rfl)
/-! ### is_name -/
def Nis_name : List Str := ["value", "letter"]
def bis_name : SX := (sSeq (sIf (mOrT (mNotT (mTru (mCB (dIsi isT) (mCons (mVar 0) (mCons (mC (.ty "str")) mNil))))) (mNotT (mTest (mChn (dCmpI fun i j => decide (i ≤ j)) (dCmpI fun i j => decide (i ≤ j)) (mC (.int 1)) (mCB dLen (mCons (mVar 0) mNil)) (mC (.int 8)))))) (sRet (mC (.bl false))) sNx) (sRet (mCB dAll (mCons (mComp (iTxt (mVar 0)) (gN 1) mYes (mBin (dInS false) (mVar 1) (mC (.str "abcdefghijklmnopqrstuvwxyz"))) [1]) mNil))))
def mis_name : List D → M D := fnM 1 2 bis_name
theorem okis_name (hS : ∃ o, base.get? sysModules = some o) (hTB : ∀ p ∈ tb, LamX.TabB base mg p.1 p.2) (T : Tp K mg cs tb) : FnW P w K mg base (sg K cs tb) 1 "is_name" (top 7) [] ["value"] mis_name := by
  obtain ⟨f, fd, F, hm, hk⟩ := T.dis_name
  refine ⟨f, fd, fn_okM (k := 0) (N := Nis_name) (S := sg K cs tb) (body := bis_name) F.g (scpB_of (by kernel_rfl)) fun cdv A outer s pen G0 H E hcv hg hr => ?_, F, hm, hk⟩
  have B := @Bx.def P w K mg base Nis_name "is_name" (defScope (top 7)) f cdv A outer s H E (sg K cs tb) pen G0 H 0 hg hr rfl hS
  exact (mss_cons (ms_if (PW.pt (mw_or (mt_not (mt_tru B.hK (me_b (b_isi B T.isf) (T.bn _ (by kernel_rfl)) (by kernel_rfl) (by kernel_rfl) (ma_cons (me_v (i := 0) (by kernel_rfl)) (ma_cons (me_tyn (t := "str") (T.bn _ (by kernel_rfl)) (by kernel_rfl) (by kernel_rfl) (by kernel_rfl)) ma_nil))))) (mw_or1 (mt_not (mt_chn c_le c_le me_int (me_b (b_len B) (T.bn _ (by kernel_rfl)) (by kernel_rfl) (by kernel_rfl) (ma_cons (me_v (i := 0) (by kernel_rfl)) ma_nil)) (me_cn (c := (.i 8)) (T.cn 0 _ _ rfl) (by kernel_rfl) (by kernel_rfl))))))) (mss_one (ms_ret me_bl)) mss_nil) (mss_one (ms_ret (me_b (b_all B) (T.bn _ (by kernel_rfl)) (by kernel_rfl) (by kernel_rfl) (ma_cons (me_lc (own := [("letter", 1)]) B.calm (nodB_of (by kernel_rfl)) (mi_txt (me_v (i := 0) (by kernel_rfl))) (blkB_of (by kernel_rfl)) (fun s H C cl fp => (mg_nm (i := 1) (by kernel_rfl) (by kernel_rfl) (by kernel_rfl) (by kernel_rfl))) (fun s H C cl fp => mts_nil) (fun s H C cl fp => (me_cm (c_inS B.blk) (me_v (i := 1) (by kernel_rfl)) (me_cn (c := (.s "abcdefghijklmnopqrstuvwxyz")) (T.cn 1 _ _ rfl) (by kernel_rfl) (by kernel_rfl))))) ma_nil)))))
/-! ### is_integer -/
def Nis_integer : List Str := ["value"]
def bis_integer : SX := (sRet (mAndV (mCB (dIsi isT) (mCons (mVar 0) (mCons (mC (.ty "int")) mNil))) (mNotV (mCB (dIsi isT) (mCons (mVar 0) (mCons (mC (.ty "bool")) mNil))))))
def mis_integer : List D → M D := fnM 1 1 bis_integer
theorem okis_integer (hS : ∃ o, base.get? sysModules = some o) (hTB : ∀ p ∈ tb, LamX.TabB base mg p.1 p.2) (T : Tp K mg cs tb) : FnW P w K mg base (sg K cs tb) 1 "is_integer" (top 5) [] ["value"] mis_integer := by
  obtain ⟨f, fd, F, hm, hk⟩ := T.dis_integer
  refine ⟨f, fd, fn_okM (k := 0) (N := Nis_integer) (S := sg K cs tb) (body := bis_integer) F.g (scpB_of (by kernel_rfl)) fun cdv A outer s pen G0 H E hcv hg hr => ?_, F, hm, hk⟩
  have B := @Bx.def P w K mg base Nis_integer "is_integer" (defScope (top 5)) f cdv A outer s H E (sg K cs tb) pen G0 H 0 hg hr rfl hS
  exact (mss_one (ms_ret (me_and (me_b (b_isi B T.isf) (T.bn _ (by kernel_rfl)) (by kernel_rfl) (by kernel_rfl) (ma_cons (me_v (i := 0) (by kernel_rfl)) (ma_cons (me_tyn (t := "int") (T.bn _ (by kernel_rfl)) (by kernel_rfl) (by kernel_rfl) (by kernel_rfl)) ma_nil))) (me_one (me_not (me_b (b_isi B T.isf) (T.bn _ (by kernel_rfl)) (by kernel_rfl) (by kernel_rfl) (ma_cons (me_v (i := 0) (by kernel_rfl)) (ma_cons (me_tyn (t := "bool") (T.bn _ (by kernel_rfl)) (by kernel_rfl) (by kernel_rfl) (by kernel_rfl)) ma_nil))))))))
/-! ### is_between -/
def Nis_between : List Str := ["value", "low", "high"]
def bis_between : SX := (sRet (mAndV (mCallK mis_integer 1 0 [] [.p 0] (mCons (mVar 0) mNil) mNil) (mChn (dCmpI fun i j => decide (i ≤ j)) (dCmpI fun i j => decide (i ≤ j)) (mVar 1) (mVar 0) (mVar 2))))
def mis_between : List D → M D := fnM 3 3 bis_between
theorem okis_between (hS : ∃ o, base.get? sysModules = some o) (hTB : ∀ p ∈ tb, LamX.TabB base mg p.1 p.2) (T : Tp K mg cs tb) : FnW P w K mg base (sg K cs tb) 2 "is_between" (top 6) [] ["value", "low", "high"] mis_between := by
  obtain ⟨f, fd, F, hm, hk⟩ := T.dis_between
  have okis_integer := okis_integer (P := P) (w := w) (base := base) hS hTB T
  refine ⟨f, fd, fn_okM (k := 1) (N := Nis_between) (S := sg K cs tb) (body := bis_between) F.g (scpB_of (by kernel_rfl)) fun cdv A outer s pen G0 H E hcv hg hr => ?_, F, hm, hk⟩
  have B := @Bx.def P w K mg base Nis_between "is_between" (defScope (top 6)) f cdv A outer s H E (sg K cs tb) pen G0 H 1 hg hr rfl hS
  exact (mss_one (ms_ret (me_and (me_call B (k := 1) (ks := []) (l := [.p 0]) (FnW.t (ks := []) (dvs := []) (l := [.p 0]) okis_integer (fun f fd F => bdW0 F (fun s kV doc pm an cdv ct us ws h1 h2 => match us, ws, h1, h2 with | [_], [], _, _ => .of_eq (by kernel_rfl))) (by kernel_rfl)) (by kernel_rfl) (by kernel_rfl) (by kernel_rfl) (pak_pos (ma_cons (me_v (i := 0) (by kernel_rfl)) ma_nil))) (me_one (me_chn c_le c_le (me_v (i := 1) (by kernel_rfl)) (me_v (i := 0) (by kernel_rfl)) (me_v (i := 2) (by kernel_rfl)))))))
/-! ### Trip___init__ -/
def NTrip___init__ : List Str := ["self", "start", "goal", "price", "value"]
def bTrip___init__ : SX := (sSeq (sFor (iTpl (mTup (mCons (mVar 1) (mCons (mVar 2) mNil)))) (gN 4) (sIf (mNotT (mTru (mCallK mis_name 1 0 [] [.p 0] (mCons (mVar 4) mNil) mNil))) (sRaise 2 1 0 [] [.p 0] 1 (mCons (mVar 4) mNil) mNil) sNx)) (sSeq (sIf (mTest (mBin (dEq false) (mVar 1) (mVar 2))) (sRaise 3 1 0 [] [.p 0] 1 (mCons (mC (.str "goal")) mNil) mNil) sNx) (sSeq (sIf (mNotT (mTru (mCallK mis_between 3 0 [] [.p 0, .p 1, .p 2] (mCons (mVar 3) (mCons (mC (.int 0)) (mCons (mConS 0 9 (.i 99)) mNil))) mNil))) (sRaise 3 1 0 [] [.p 0] 1 (mCons (mC (.str "price")) mNil) mNil) sNx) (sSeq (sPut 0 9 0 (mVar 1)) (sSeq (sPut 0 9 1 (mVar 2)) (sPut 0 9 2 (mVar 3)))))))
def iTrip : List D → M (List D) := inM 9 3 5 3 bTrip___init__
theorem okTrip___init__ (hS : ∃ o, base.get? sysModules = some o) (hTB : ∀ p ∈ tb, LamX.TabB base mg p.1 p.2) (T : Tp K mg cs tb) : InW P w K mg base (sg K cs tb) 3 9 "Trip.__init__" (inClass (top 23) 1) [.int 1] ["start", "goal", "price"] iTrip := by
  obtain ⟨f, fd, F, h1, h2, h3⟩ := T.wTrip___init__
  have okis_name := okis_name (P := P) (w := w) (base := base) hS hTB T
  have okis_between := okis_between (P := P) (w := w) (base := base) hS hTB T
  refine ⟨f, fd, fn_okO (k := 2) (c := 9) (N := NTrip___init__) (ps := ["start", "goal", "price"]) (S := sg K cs tb) (body := bTrip___init__) F.g (scpB_of (by kernel_rfl)) (by kernel_rfl) fun cdv A outer s pen G0 B0 H E hg hr => ?_, F, h1, h2⟩
  have B := @Bx.def P w K mg base NTrip___init__ "Trip.__init__" (defScope (inClass (top 23) 1)) f cdv A outer s H E (sg K cs tb) pen G0 B0 2 hg hr rfl hS
  exact (mss_cons (ms_for (js := [4]) (passes_of rfl) B.calm (mi_tup B.hK (me_tup (ma_cons (me_v (i := 1) (by kernel_rfl)) (ma_cons (me_v (i := 2) (by kernel_rfl)) ma_nil)))) (mg_nm (i := 4) (by kernel_rfl) (by kernel_rfl) (by kernel_rfl) (by kernel_rfl)) (mss_one (ms_if (mt_not (mt_tru B.hK (me_call B (k := 1) (ks := []) (l := [.p 0]) (FnW.t (ks := []) (dvs := []) (l := [.p 0]) okis_name (fun f fd F => bdW0 F (fun s kV doc pm an cdv ct us ws h1 h2 => match us, ws, h1, h2 with | [_], [], _, _ => .of_eq (by kernel_rfl))) (by kernel_rfl)) (by kernel_rfl) (by kernel_rfl) (by kernel_rfl) (pak_pos (ma_cons (me_v (i := 4) (by kernel_rfl)) ma_nil))))) (mss_one (ms_thr (c := 2) B (xt_2_1 T) (by kernel_rfl) (by kernel_rfl) (by kernel_rfl) (pak_pos (ma_cons (me_v (i := 4) (by kernel_rfl)) ma_nil)))) mss_nil))) (mss_cons (ms_if (mt_cm (c_eq B) (me_v (i := 1) (by kernel_rfl)) (me_v (i := 2) (by kernel_rfl))) (mss_one (ms_thr (c := 3) B (xt_3_1 T) (by kernel_rfl) (by kernel_rfl) (by kernel_rfl) (pak_pos (ma_cons me_str ma_nil)))) mss_nil) (mss_cons (ms_if (mt_not (mt_tru B.hK (me_call B (k := 2) (ks := []) (l := [.p 0, .p 1, .p 2]) (FnW.t (ks := []) (dvs := []) (l := [.p 0, .p 1, .p 2]) okis_between (fun f fd F => bdW0 F (fun s kV doc pm an cdv ct us ws h1 h2 => match us, ws, h1, h2 with | [_, _, _], [], _, _ => .of_eq (by kernel_rfl))) (by kernel_rfl)) (by kernel_rfl) (by kernel_rfl) (by kernel_rfl) (pak_pos (ma_cons (me_v (i := 3) (by kernel_rfl)) (ma_cons me_int (ma_cons (me_conS (c := 9) (z := (.i 99)) B (by kernel_rfl) T.b0) ma_nil))))))) (mss_one (ms_thr (c := 3) B (xt_3_1 T) (by kernel_rfl) (by kernel_rfl) (by kernel_rfl) (pak_pos (ma_cons me_str ma_nil)))) mss_nil) (mss_cons (ms_put (i := 0) (c := 9) (k := 0) B (by kernel_rfl) T.b1 (me_v (i := 1) (by kernel_rfl))) (mss_cons (ms_put (i := 0) (c := 9) (k := 1) B (by kernel_rfl) T.b2 (me_v (i := 2) (by kernel_rfl))) (mss_one (ms_put (i := 0) (c := 9) (k := 2) B (by kernel_rfl) T.b3 (me_v (i := 3) (by kernel_rfl)))))))))
/-! ### yards_of -/
def Nyards_of : List Str := ["trips", "found", "trip"]
def byards_of : SX := (sSeq (sSet 1 (mBin dAdd (mComp (iAny itL (mVar 0)) (gN 2) mYes (mCB dStr1 (mCons (mUn (dFld [(9, 0)] []) (mVar 2)) mNil)) [2]) (mComp (iAny itL (mVar 0)) (gN 2) mYes (mCB dStr1 (mCons (mUn (dFld [(9, 1)] []) (mVar 2)) mNil)) [2]))) (sRet (mCB dTup1 (mCons (mUn dSSet (mVar 1)) mNil))))
def myards_of : List D → M D := fnM 1 3 byards_of
theorem okyards_of (hS : ∃ o, base.get? sysModules = some o) (hTB : ∀ p ∈ tb, LamX.TabB base mg p.1 p.2) (T : Tp K mg cs tb) : FnW P w K mg base (sg K cs tb) 2 "yards_of" (top 28) [] ["trips"] myards_of := by
  obtain ⟨f, fd, F, hm, hk⟩ := T.dyards_of
  refine ⟨f, fd, fn_okM (k := 1) (N := Nyards_of) (S := sg K cs tb) (body := byards_of) F.g (scpB_of (by kernel_rfl)) fun cdv A outer s pen G0 H E hcv hg hr => ?_, F, hm, hk⟩
  have B := @Bx.def P w K mg base Nyards_of "yards_of" (defScope (top 28)) f cdv A outer s H E (sg K cs tb) pen G0 H 1 hg hr rfl hS
  exact (mss_cons (ms_st (i := 1) (by kernel_rfl) (by kernel_rfl) (me_add B (me_lc (own := [("trip", 2)]) B.calm (nodB_of (by kernel_rfl)) (mi_any (k := 1) B (itab T) (by kernel_rfl) (me_v (i := 0) (by kernel_rfl))) (blkB_of (by kernel_rfl)) (fun s H C cl fp => (mg_nm (i := 2) (by kernel_rfl) (by kernel_rfl) (by kernel_rfl) (by kernel_rfl))) (fun s H C cl fp => mts_nil) (fun s H C cl fp => (me_b (b_str B.blk) (T.bn _ (by kernel_rfl)) (by kernel_rfl) (by kernel_rfl) (ma_cons (me_f B.blk T.b5 (by rfl) (me_v (i := 2) (by kernel_rfl))) ma_nil)))) (me_lc (own := [("trip", 2)]) B.calm (nodB_of (by kernel_rfl)) (mi_any (k := 1) B (itab T) (by kernel_rfl) (me_v (i := 0) (by kernel_rfl))) (blkB_of (by kernel_rfl)) (fun s H C cl fp => (mg_nm (i := 2) (by kernel_rfl) (by kernel_rfl) (by kernel_rfl) (by kernel_rfl))) (fun s H C cl fp => mts_nil) (fun s H C cl fp => (me_b (b_str B.blk) (T.bn _ (by kernel_rfl)) (by kernel_rfl) (by kernel_rfl) (ma_cons (me_f B.blk T.b6 (by rfl) (me_v (i := 2) (by kernel_rfl))) ma_nil)))))) (mss_one (ms_ret (me_b (b_tuple B) (T.bn _ (by kernel_rfl)) (by kernel_rfl) (by kernel_rfl) (ma_cons (me_sset B (T.bn _ (by kernel_rfl)) (T.bn _ (by kernel_rfl)) (by kernel_rfl) (by kernel_rfl) (me_v (i := 1) (by kernel_rfl))) ma_nil)))))
/-! ### need_trips -/
def Nneed_trips : List Str := ["values", "value"]
def bneed_trips : SX := (sSeq (sIf (mOrT (mTest (mBin (dCmpI fun i j => decide (i < j)) (mCB dLen (mCons (mVar 0) mNil)) (mC (.int 2)))) (mNotT (mTru (mCB dAll (mCons (mComp (iAny itL (mVar 0)) (gN 1) mYes (mCB (dIsi isT) (mCons (mVar 1) (mCons (mC (.cls 9)) mNil))) [1]) mNil))))) (sRaise 4 1 0 [] [.p 0] 1 (mCons (mC (.str "trips")) mNil) mNil) sNx) (sSeq (sIf (mTest (mBin (dCmpI fun i j => decide (j < i)) (mCB dLen (mCons (mVar 0) mNil)) (mC (.int 12)))) (sRaise 8 2 0 [] [.p 0, .p 1] 2 (mCons (mC (.str "trips")) (mCons (mC (.int 12)) mNil)) mNil) sNx) (sIf (mTest (mBin (dCmpI fun i j => decide (j < i)) (mCB dLen (mCons (mCallK myards_of 1 0 [] [.p 0] (mCons (mVar 0) mNil) mNil) mNil)) (mC (.int 6)))) (sRaise 8 2 0 [] [.p 0, .p 1] 2 (mCons (mC (.str "yards")) (mCons (mC (.int 6)) mNil)) mNil) sNx)))
def mneed_trips : List D → M D := fnM 1 2 bneed_trips
theorem okneed_trips (hS : ∃ o, base.get? sysModules = some o) (hTB : ∀ p ∈ tb, LamX.TabB base mg p.1 p.2) (T : Tp K mg cs tb) : FnW P w K mg base (sg K cs tb) 3 "need_trips" (top 29) [] ["values"] mneed_trips := by
  obtain ⟨f, fd, F, hm, hk⟩ := T.dneed_trips
  have okyards_of := okyards_of (P := P) (w := w) (base := base) hS hTB T
  refine ⟨f, fd, fn_okM (k := 2) (N := Nneed_trips) (S := sg K cs tb) (body := bneed_trips) F.g (scpB_of (by kernel_rfl)) fun cdv A outer s pen G0 H E hcv hg hr => ?_, F, hm, hk⟩
  have B := @Bx.def P w K mg base Nneed_trips "need_trips" (defScope (top 29)) f cdv A outer s H E (sg K cs tb) pen G0 H 2 hg hr rfl hS
  exact (mss_cons (ms_if (PW.pt (mw_or (mt_cm c_lt (me_b (b_len B) (T.bn _ (by kernel_rfl)) (by kernel_rfl) (by kernel_rfl) (ma_cons (me_v (i := 0) (by kernel_rfl)) ma_nil)) (me_cn (c := (.i 2)) (T.cn 2 _ _ rfl) (by kernel_rfl) (by kernel_rfl))) (mw_or1 (mt_not (mt_tru B.hK (me_b (b_all B) (T.bn _ (by kernel_rfl)) (by kernel_rfl) (by kernel_rfl) (ma_cons (me_lc (own := [("value", 1)]) B.calm (nodB_of (by kernel_rfl)) (mi_any (k := 1) B (itab T) (by kernel_rfl) (me_v (i := 0) (by kernel_rfl))) (blkB_of (by kernel_rfl)) (fun s H C cl fp => (mg_nm (i := 1) (by kernel_rfl) (by kernel_rfl) (by kernel_rfl) (by kernel_rfl))) (fun s H C cl fp => mts_nil) (fun s H C cl fp => (me_b (b_isi B.blk T.isf) (T.bn _ (by kernel_rfl)) (by kernel_rfl) (by kernel_rfl) (ma_cons (me_v (i := 1) (by kernel_rfl)) (ma_cons (me_cls (c := 9) (T.cm 9 _ (by kernel_rfl)) (by kernel_rfl) (by kernel_rfl)) ma_nil))))) ma_nil))))))) (mss_one (ms_thr (c := 4) B (xt_4_1 T) (by kernel_rfl) (by kernel_rfl) (by kernel_rfl) (pak_pos (ma_cons me_str ma_nil)))) mss_nil) (mss_cons (ms_if (mt_cm c_gt (me_b (b_len B) (T.bn _ (by kernel_rfl)) (by kernel_rfl) (by kernel_rfl) (ma_cons (me_v (i := 0) (by kernel_rfl)) ma_nil)) (me_cn (c := (.i 12)) (T.cn 3 _ _ rfl) (by kernel_rfl) (by kernel_rfl))) (mss_one (ms_thr (c := 8) B (xt_8_2 T) (by kernel_rfl) (by kernel_rfl) (by kernel_rfl) (pak_pos (ma_cons me_str (ma_cons (me_cn (c := (.i 12)) (T.cn 3 _ _ rfl) (by kernel_rfl) (by kernel_rfl)) ma_nil))))) mss_nil) (mss_one (ms_if (mt_cm c_gt (me_b (b_len B) (T.bn _ (by kernel_rfl)) (by kernel_rfl) (by kernel_rfl) (ma_cons (me_call B (k := 2) (ks := []) (l := [.p 0]) (FnW.t (ks := []) (dvs := []) (l := [.p 0]) okyards_of (fun f fd F => bdW0 F (fun s kV doc pm an cdv ct us ws h1 h2 => match us, ws, h1, h2 with | [_], [], _, _ => .of_eq (by kernel_rfl))) (by kernel_rfl)) (by kernel_rfl) (by kernel_rfl) (by kernel_rfl) (pak_pos (ma_cons (me_v (i := 0) (by kernel_rfl)) ma_nil))) ma_nil)) (me_cn (c := (.i 6)) (T.cn 4 _ _ rfl) (by kernel_rfl) (by kernel_rfl))) (mss_one (ms_thr (c := 8) B (xt_8_2 T) (by kernel_rfl) (by kernel_rfl) (by kernel_rfl) (pak_pos (ma_cons me_str (ma_cons (me_cn (c := (.i 6)) (T.cn 4 _ _ rfl) (by kernel_rfl) (by kernel_rfl)) ma_nil))))) mss_nil))))
/-! ### need_balance -/
def Nneed_balance : List Str := ["trips", "yard", "starts", "goals", "trip"]
def bneed_balance : SX := (sFor (iAny itL (mCallK myards_of 1 0 [] [.p 0] (mCons (mVar 0) mNil) mNil)) (gN 1) (sSeq (sSet 2 (mComp (iAny itL (mVar 0)) (gN 4) (mTest (mBin (dEq false) (mUn (dFld [(9, 0)] []) (mVar 4)) (mVar 1))) (mVar 4) [4])) (sSeq (sSet 3 (mComp (iAny itL (mVar 0)) (gN 4) (mTest (mBin (dEq false) (mUn (dFld [(9, 1)] []) (mVar 4)) (mVar 1))) (mVar 4) [4])) (sIf (mTest (mBin (dEq true) (mCB dLen (mCons (mVar 2) mNil)) (mCB dLen (mCons (mVar 3) mNil)))) (sRaise 7 1 0 [] [.p 0] 1 (mCons (mVar 1) mNil) mNil) sNx))))
def mneed_balance : List D → M D := fnM 1 5 bneed_balance
theorem okneed_balance (hS : ∃ o, base.get? sysModules = some o) (hTB : ∀ p ∈ tb, LamX.TabB base mg p.1 p.2) (T : Tp K mg cs tb) : FnW P w K mg base (sg K cs tb) 3 "need_balance" (top 30) [] ["trips"] mneed_balance := by
  obtain ⟨f, fd, F, hm, hk⟩ := T.dneed_balance
  have okyards_of := okyards_of (P := P) (w := w) (base := base) hS hTB T
  refine ⟨f, fd, fn_okM (k := 2) (N := Nneed_balance) (S := sg K cs tb) (body := bneed_balance) F.g (scpB_of (by kernel_rfl)) fun cdv A outer s pen G0 H E hcv hg hr => ?_, F, hm, hk⟩
  have B := @Bx.def P w K mg base Nneed_balance "need_balance" (defScope (top 30)) f cdv A outer s H E (sg K cs tb) pen G0 H 2 hg hr rfl hS
  exact (mss_one (ms_for (js := [1]) (passes_of rfl) B.calm (mi_any (k := 1) B (itab T) (by kernel_rfl) (me_call B (k := 2) (ks := []) (l := [.p 0]) (FnW.t (ks := []) (dvs := []) (l := [.p 0]) okyards_of (fun f fd F => bdW0 F (fun s kV doc pm an cdv ct us ws h1 h2 => match us, ws, h1, h2 with | [_], [], _, _ => .of_eq (by kernel_rfl))) (by kernel_rfl)) (by kernel_rfl) (by kernel_rfl) (by kernel_rfl) (pak_pos (ma_cons (me_v (i := 0) (by kernel_rfl)) ma_nil)))) (mg_nm (i := 1) (by kernel_rfl) (by kernel_rfl) (by kernel_rfl) (by kernel_rfl)) (mss_cons (ms_setLc (own := [("trip", 4)]) (i := 2) B.calm (nodB_of (by kernel_rfl)) (ixB_of (by kernel_rfl)) (lclB_of (by kernel_rfl)) rfl (mi_any (k := 1) B (itab T) (by kernel_rfl) (me_v (i := 0) (by kernel_rfl))) (blkB_of (by kernel_rfl)) (fun s H C cl fp => (mg_nm (i := 4) (by kernel_rfl) (by kernel_rfl) (by kernel_rfl) (by kernel_rfl))) (fun s H C cl fp => (mts_one (mt_cm (c_eq B.blk) (me_f B.blk T.b5 (by rfl) (me_v (i := 4) (by kernel_rfl))) (me_v (i := 1) (by kernel_rfl))))) (fun s H C cl fp => (me_v (i := 4) (by kernel_rfl)))) (mss_cons (ms_setLc (own := [("trip", 4)]) (i := 3) B.calm (nodB_of (by kernel_rfl)) (ixB_of (by kernel_rfl)) (lclB_of (by kernel_rfl)) rfl (mi_any (k := 1) B (itab T) (by kernel_rfl) (me_v (i := 0) (by kernel_rfl))) (blkB_of (by kernel_rfl)) (fun s H C cl fp => (mg_nm (i := 4) (by kernel_rfl) (by kernel_rfl) (by kernel_rfl) (by kernel_rfl))) (fun s H C cl fp => (mts_one (mt_cm (c_eq B.blk) (me_f B.blk T.b6 (by rfl) (me_v (i := 4) (by kernel_rfl))) (me_v (i := 1) (by kernel_rfl))))) (fun s H C cl fp => (me_v (i := 4) (by kernel_rfl)))) (mss_one (ms_if (mt_cm (c_ne B) (me_b (b_len B) (T.bn _ (by kernel_rfl)) (by kernel_rfl) (by kernel_rfl) (ma_cons (me_v (i := 2) (by kernel_rfl)) ma_nil)) (me_b (b_len B) (T.bn _ (by kernel_rfl)) (by kernel_rfl) (by kernel_rfl) (ma_cons (me_v (i := 3) (by kernel_rfl)) ma_nil))) (mss_one (ms_thr (c := 7) B (xt_7_1 T) (by kernel_rfl) (by kernel_rfl) (by kernel_rfl) (pak_pos (ma_cons (me_v (i := 1) (by kernel_rfl)) ma_nil)))) mss_nil))))))
/-! ### Tour___init__ -/
def NTour___init__ : List Str := ["self", "trips"]
def bTour___init__ : SX := (sSeq (sExpr (mCallK mneed_trips 1 0 [] [.p 0] (mCons (mVar 1) mNil) mNil)) (sSeq (sExpr (mCallK mneed_balance 1 0 [] [.p 0] (mCons (mVar 1) mNil) mNil)) (sSeq (sPut 0 10 0 (mVar 1)) (sPut 0 10 1 (mCallK myards_of 1 0 [] [.p 0] (mCons (mVar 1) mNil) mNil)))))
def iTour : List D → M (List D) := inM 10 1 2 2 bTour___init__
theorem okTour___init__ (hS : ∃ o, base.get? sysModules = some o) (hTB : ∀ p ∈ tb, LamX.TabB base mg p.1 p.2) (T : Tp K mg cs tb) : InV P w K mg base (sg K cs tb) 4 10 iTour := by
  obtain ⟨f, fd, F, h1, h2, h3⟩ := T.wTour___init__
  have okyards_of := okyards_of (P := P) (w := w) (base := base) hS hTB T
  have okneed_trips := okneed_trips (P := P) (w := w) (base := base) hS hTB T
  have okneed_balance := okneed_balance (P := P) (w := w) (base := base) hS hTB T
  refine ⟨f, fn_okOV (k := 3) (c := 10) (N := NTour___init__) (pv := "trips") (S := sg K cs tb) (body := bTour___init__) F.g (scpB_of (by kernel_rfl)) (by kernel_rfl) (bdV F fun kV doc pm an cdv ct => bdv1 (fun _ => by kernel_rfl) (fun _ _ _ => by kernel_rfl)) fun cdv A outer s pen G0 B0 H E hg hr => ?_, h1, h2⟩
  have B := @Bx.def P w K mg base NTour___init__ "Tour.__init__" (defScope (inClass (top 33) 0)) f cdv A outer s H E (sg K cs tb) pen G0 B0 3 hg hr rfl hS
  exact (mss_cons (ms_expr (me_call B (k := 3) (ks := []) (l := [.p 0]) (FnW.t (ks := []) (dvs := []) (l := [.p 0]) okneed_trips (fun f fd F => bdW0 F (fun s kV doc pm an cdv ct us ws h1 h2 => match us, ws, h1, h2 with | [_], [], _, _ => .of_eq (by kernel_rfl))) (by kernel_rfl)) (by kernel_rfl) (by kernel_rfl) (by kernel_rfl) (pak_pos (ma_cons (me_v (i := 1) (by kernel_rfl)) ma_nil)))) (mss_cons (ms_expr (me_call B (k := 3) (ks := []) (l := [.p 0]) (FnW.t (ks := []) (dvs := []) (l := [.p 0]) okneed_balance (fun f fd F => bdW0 F (fun s kV doc pm an cdv ct us ws h1 h2 => match us, ws, h1, h2 with | [_], [], _, _ => .of_eq (by kernel_rfl))) (by kernel_rfl)) (by kernel_rfl) (by kernel_rfl) (by kernel_rfl) (pak_pos (ma_cons (me_v (i := 1) (by kernel_rfl)) ma_nil)))) (mss_cons (ms_put (i := 0) (c := 10) (k := 0) B (by kernel_rfl) T.b7 (me_v (i := 1) (by kernel_rfl))) (mss_one (ms_put (i := 0) (c := 10) (k := 1) B (by kernel_rfl) T.b8 (me_call B (k := 2) (ks := []) (l := [.p 0]) (FnW.t (ks := []) (dvs := []) (l := [.p 0]) okyards_of (fun f fd F => bdW0 F (fun s kV doc pm an cdv ct us ws h1 h2 => match us, ws, h1, h2 with | [_], [], _, _ => .of_eq (by kernel_rfl))) (by kernel_rfl)) (by kernel_rfl) (by kernel_rfl) (by kernel_rfl) (pak_pos (ma_cons (me_v (i := 1) (by kernel_rfl)) ma_nil))))))))
/-! ### ends_told -/
def Nends_told : List Str := ["word", "start", "sign", "goal"]
def bends_told : SX := (sSeq (sUnp (gT (gs1 (gN 1) (gs1 (gN 2) (gs1 (gN 3) gs0)))) (mSM dPart (mVar 0) (mCons (mC (.str ">")) mNil))) (sRet (mIf (mAndT (mTru (mCallK mis_name 1 0 [] [.p 0] (mCons (mVar 1) mNil) mNil)) (mAndT (mTru (mCallK mis_name 1 0 [] [.p 0] (mCons (mVar 3) mNil) mNil)) (mTest (mBin (dEq true) (mVar 1) (mVar 3))))) (mTup (mCons (mVar 1) (mCons (mVar 3) mNil))) (mC .non))))
def mends_told : List D → M D := fnM 1 4 bends_told
theorem okends_told (hS : ∃ o, base.get? sysModules = some o) (hTB : ∀ p ∈ tb, LamX.TabB base mg p.1 p.2) (T : Tp K mg cs tb) : FnW P w K mg base (sg K cs tb) 2 "ends_told" (top 21) [] ["word"] mends_told := by
  obtain ⟨f, fd, F, hm, hk⟩ := T.dends_told
  have okis_name := okis_name (P := P) (w := w) (base := base) hS hTB T
  refine ⟨f, fd, fn_okM (k := 1) (N := Nends_told) (S := sg K cs tb) (body := bends_told) F.g (scpB_of (by kernel_rfl)) fun cdv A outer s pen G0 H E hcv hg hr => ?_, F, hm, hk⟩
  have B := @Bx.def P w K mg base Nends_told "ends_told" (defScope (top 21)) f cdv A outer s H E (sg K cs tb) pen G0 H 1 hg hr rfl hS
  exact (mss_cons (ms_unp (js := [1, 2, 3]) (me_sm PySem.F.slot_str_partition PySem.F.type_str_partition mt_partition r_part (me_v (i := 0) (by kernel_rfl)) (ma_cons me_str ma_nil)) (mg_tup B.hK B.calm (mgs_cons (mg_nm (i := 1) (by kernel_rfl) (by kernel_rfl) (by kernel_rfl) (by kernel_rfl)) (mgs_cons (mg_nm (i := 2) (by kernel_rfl) (by kernel_rfl) (by kernel_rfl) (by kernel_rfl)) (mgs_cons (mg_nm (i := 3) (by kernel_rfl) (by kernel_rfl) (by kernel_rfl) (by kernel_rfl)) mgs_nil))) (n := 3) rfl (gl1 (gl1 (gl1 gl0))))) (mss_one (ms_ret (me_if (PW.pt (mw_and (mt_tru B.hK (me_call B (k := 1) (ks := []) (l := [.p 0]) (FnW.t (ks := []) (dvs := []) (l := [.p 0]) okis_name (fun f fd F => bdW0 F (fun s kV doc pm an cdv ct us ws h1 h2 => match us, ws, h1, h2 with | [_], [], _, _ => .of_eq (by kernel_rfl))) (by kernel_rfl)) (by kernel_rfl) (by kernel_rfl) (by kernel_rfl) (pak_pos (ma_cons (me_v (i := 1) (by kernel_rfl)) ma_nil)))) (mw_and (mt_tru B.hK (me_call B (k := 1) (ks := []) (l := [.p 0]) (FnW.t (ks := []) (dvs := []) (l := [.p 0]) okis_name (fun f fd F => bdW0 F (fun s kV doc pm an cdv ct us ws h1 h2 => match us, ws, h1, h2 with | [_], [], _, _ => .of_eq (by kernel_rfl))) (by kernel_rfl)) (by kernel_rfl) (by kernel_rfl) (by kernel_rfl) (pak_pos (ma_cons (me_v (i := 3) (by kernel_rfl)) ma_nil)))) (mw_and1 (mt_cm (c_ne B) (me_v (i := 1) (by kernel_rfl)) (me_v (i := 3) (by kernel_rfl))))))) (me_tup (ma_cons (me_v (i := 1) (by kernel_rfl)) (ma_cons (me_v (i := 3) (by kernel_rfl)) ma_nil))) me_non))))
/-! ### count_in -/
def Ncount_in : List Str := ["word", "most", "sign"]
def bcount_in : SX := (sSeq (sIf (mOrT (mTest (mBin (dEq false) (mVar 0) (mC (.str "")))) (mOrT (mNotT (mTru (mCB dAll (mCons (mComp (iTxt (mVar 0)) (gN 2) mYes (mBin (dInS false) (mVar 2) (mC (.str "0123456789"))) [2]) mNil)))) (mAndT (mTest (mBin (dIsN true) (mVar 1) (mC .non))) (mTest (mBin (dCmpI fun i j => decide (j < i)) (mCB dLen (mCons (mVar 0) mNil)) (mVar 1)))))) (sRet (mC .non)) sNx) (sRet (mIf (mOrT (mTest (mBin (dEq false) (mVar 0) (mC (.str "0")))) (mTest (mBin (dEq true) (mBin dIx (mVar 0) (mC (.int 0))) (mC (.str "0"))))) (mCB dIntT (mCons (mVar 0) mNil)) (mC .non))))
def mcount_in : List D → M D := fnM 2 3 bcount_in
theorem okcount_in (hS : ∃ o, base.get? sysModules = some o) (hTB : ∀ p ∈ tb, LamX.TabB base mg p.1 p.2) (T : Tp K mg cs tb) : FnW P w K mg base (sg K cs tb) 1 "count_in" (top 8) [.non] ["word", "most"] mcount_in := by
  obtain ⟨f, fd, F, hm, hk⟩ := T.dcount_in
  refine ⟨f, fd, fn_okM (k := 0) (N := Ncount_in) (S := sg K cs tb) (body := bcount_in) F.g (scpB_of (by kernel_rfl)) fun cdv A outer s pen G0 H E hcv hg hr => ?_, F, hm, hk⟩
  have B := @Bx.def P w K mg base Ncount_in "count_in" (defScope (top 8)) f cdv A outer s H E (sg K cs tb) pen G0 H 0 hg hr rfl hS
  exact (mss_cons (ms_if (PW.pt (mw_or (mt_cm (c_eq B) (me_v (i := 0) (by kernel_rfl)) me_str) (mw_or (mt_not (mt_tru B.hK (me_b (b_all B) (T.bn _ (by kernel_rfl)) (by kernel_rfl) (by kernel_rfl) (ma_cons (me_lc (own := [("sign", 2)]) B.calm (nodB_of (by kernel_rfl)) (mi_txt (me_v (i := 0) (by kernel_rfl))) (blkB_of (by kernel_rfl)) (fun s H C cl fp => (mg_nm (i := 2) (by kernel_rfl) (by kernel_rfl) (by kernel_rfl) (by kernel_rfl))) (fun s H C cl fp => mts_nil) (fun s H C cl fp => (me_cm (c_inS B.blk) (me_v (i := 2) (by kernel_rfl)) (me_cn (c := (.s "0123456789")) (T.cn 5 _ _ rfl) (by kernel_rfl) (by kernel_rfl))))) ma_nil)))) (mw_or1 (PW.pt (mw_and (mt_cm c_isn (me_v (i := 1) (by kernel_rfl)) me_non) (mw_and1 (mt_cm c_gt (me_b (b_len B) (T.bn _ (by kernel_rfl)) (by kernel_rfl) (by kernel_rfl) (ma_cons (me_v (i := 0) (by kernel_rfl)) ma_nil)) (me_v (i := 1) (by kernel_rfl)))))))))) (mss_one (ms_ret me_non)) mss_nil) (mss_one (ms_ret (me_if (PW.pt (mw_or (mt_cm (c_eq B) (me_v (i := 0) (by kernel_rfl)) me_str) (mw_or1 (mt_cm (c_ne B) (me_ix B.hK (me_v (i := 0) (by kernel_rfl)) me_int fun _ _ => rfl) me_str)))) (me_b b_intT (T.bn _ (by kernel_rfl)) (by kernel_rfl) (by kernel_rfl) (ma_cons (me_v (i := 0) (by kernel_rfl)) ma_nil)) me_non))))
/-! ### price_told -/
def Nprice_told : List Str := ["word"]
def bprice_told : SX := (sRet (mCallK mcount_in 2 0 [.non] [.p 0, .p 1] (mCons (mVar 0) (mCons (mC (.int 2)) mNil)) mNil))
def mprice_told : List D → M D := fnM 1 1 bprice_told
theorem okprice_told (hS : ∃ o, base.get? sysModules = some o) (hTB : ∀ p ∈ tb, LamX.TabB base mg p.1 p.2) (T : Tp K mg cs tb) : FnW P w K mg base (sg K cs tb) 2 "price_told" (top 22) [] ["word"] mprice_told := by
  obtain ⟨f, fd, F, hm, hk⟩ := T.dprice_told
  have okcount_in := okcount_in (P := P) (w := w) (base := base) hS hTB T
  refine ⟨f, fd, fn_okM (k := 1) (N := Nprice_told) (S := sg K cs tb) (body := bprice_told) F.g (scpB_of (by kernel_rfl)) fun cdv A outer s pen G0 H E hcv hg hr => ?_, F, hm, hk⟩
  have B := @Bx.def P w K mg base Nprice_told "price_told" (defScope (top 22)) f cdv A outer s H E (sg K cs tb) pen G0 H 1 hg hr rfl hS
  exact (mss_one (ms_ret (me_call B (k := 1) (ks := []) (l := [.p 0, .p 1]) (FnW.t (ks := []) (dvs := [.non]) (l := [.p 0, .p 1]) okcount_in (fun f fd F => bdW1 F (fun T kV doc pm an cdv ct us its ws h1 h2 h3 => match us, its, ws, h1, h2, h3 with | [_, _], [_], [], _, _, _ => ⟨_, rfl, rfl⟩)) (by kernel_rfl)) (by kernel_rfl) (by kernel_rfl) (by kernel_rfl) (pak_pos (ma_cons (me_v (i := 0) (by kernel_rfl)) (ma_cons (me_cn (c := (.i 2)) (T.cn 6 _ _ rfl) (by kernel_rfl) (by kernel_rfl)) ma_nil))))))
/-! ### price_at -/
def Nprice_at : List Str := ["words", "at", "word"]
def bprice_at : SX := (sSeq (sSet 2 (mBin dIx (mVar 0) (mVar 1))) (sSeq (sIf (mTest (mBin (dEq false) (mVar 1) (mBin dSub (mCB dLen (mCons (mVar 0) mNil)) (mC (.int 1))))) (sRet (mCallK mprice_told 1 0 [] [.p 0] (mCons (mVar 2) mNil) mNil)) sNx) (sRet (mIf (mTest (mBin (dEq false) (mSlA (mVar 2) (some (mUn dNeg (mC (.int 1)))) none) (mC (.str ",")))) (mCallK mprice_told 1 0 [] [.p 0] (mCons (mSlA (mVar 2) none (some (mUn dNeg (mC (.int 1))))) mNil) mNil) (mC .non)))))
def mprice_at : List D → M D := fnM 2 3 bprice_at
theorem okprice_at (hS : ∃ o, base.get? sysModules = some o) (hTB : ∀ p ∈ tb, LamX.TabB base mg p.1 p.2) (T : Tp K mg cs tb) : FnW P w K mg base (sg K cs tb) 3 "price_at" (top 31) [] ["words", "at"] mprice_at := by
  obtain ⟨f, fd, F, hm, hk⟩ := T.dprice_at
  have okprice_told := okprice_told (P := P) (w := w) (base := base) hS hTB T
  refine ⟨f, fd, fn_okM (k := 2) (N := Nprice_at) (S := sg K cs tb) (body := bprice_at) F.g (scpB_of (by kernel_rfl)) fun cdv A outer s pen G0 H E hcv hg hr => ?_, F, hm, hk⟩
  have B := @Bx.def P w K mg base Nprice_at "price_at" (defScope (top 31)) f cdv A outer s H E (sg K cs tb) pen G0 H 2 hg hr rfl hS
  exact (mss_cons (ms_st (i := 2) (by kernel_rfl) (by kernel_rfl) (me_ix B.hK (me_v (i := 0) (by kernel_rfl)) (me_v (i := 1) (by kernel_rfl)) fun _ _ => rfl)) (mss_cons (ms_if (mt_cm (c_eq B) (me_v (i := 1) (by kernel_rfl)) (me_sub (me_b (b_len B) (T.bn _ (by kernel_rfl)) (by kernel_rfl) (by kernel_rfl) (ma_cons (me_v (i := 0) (by kernel_rfl)) ma_nil)) me_int)) (mss_one (ms_ret (me_call B (k := 2) (ks := []) (l := [.p 0]) (FnW.t (ks := []) (dvs := []) (l := [.p 0]) okprice_told (fun f fd F => bdW0 F (fun s kV doc pm an cdv ct us ws h1 h2 => match us, ws, h1, h2 with | [_], [], _, _ => .of_eq (by kernel_rfl))) (by kernel_rfl)) (by kernel_rfl) (by kernel_rfl) (by kernel_rfl) (pak_pos (ma_cons (me_v (i := 2) (by kernel_rfl)) ma_nil))))) mss_nil) (mss_one (ms_ret (me_if (mt_cm (c_eq B) (me_slA B.hK (me_v (i := 2) (by kernel_rfl)) (mo_some (me_neg me_int)) mo_none) me_str) (me_call B (k := 2) (ks := []) (l := [.p 0]) (FnW.t (ks := []) (dvs := []) (l := [.p 0]) okprice_told (fun f fd F => bdW0 F (fun s kV doc pm an cdv ct us ws h1 h2 => match us, ws, h1, h2 with | [_], [], _, _ => .of_eq (by kernel_rfl))) (by kernel_rfl)) (by kernel_rfl) (by kernel_rfl) (by kernel_rfl) (pak_pos (ma_cons (me_slA B.hK (me_v (i := 2) (by kernel_rfl)) mo_none (mo_some (me_neg me_int))) ma_nil))) me_non)))))
/-! ### trips_in -/
def Ntrips_in : List Str := ["words", "found", "at", "word", "price", "start", "goal"]
def btrips_in : SX := (sSeq (sNewL 1 mNil) (sSeq (sFor (iEnu (mCons (mVar 0) mNil)) (gT (gs1 (gN 2) (gs1 (gN 3) gs0))) (sIf (mTest (mBin (dEq false) (mBin dMod (mVar 2) (mC (.int 2))) (mC (.int 0)))) (sIf (mOrT (mTest (mBin (dCmpI fun i j => decide (j ≤ i)) (mVar 2) (mBin dMulT (mC (.int 2)) (mC (.int 12))))) (mTest (mBin (dIsN false) (mCallK mends_told 1 0 [] [.p 0] (mCons (mVar 3) mNil) mNil) (mC .non)))) (sRaise 5 2 0 [] [.p 0, .p 1] 2 (mCons (mC (.int 0)) (mCons (mVar 2) mNil)) mNil) sNx) (sSeq (sSet 4 (mCallK mprice_at 2 0 [] [.p 0, .p 1] (mCons (mVar 0) (mCons (mVar 2) mNil)) mNil)) (sSeq (sIf (mTest (mBin (dIsN false) (mVar 4) (mC .non))) (sRaise 5 2 0 [] [.p 0, .p 1] 2 (mCons (mC (.int 0)) (mCons (mVar 2) mNil)) mNil) sNx) (sSeq (sUnp (gT (gs1 (gN 5) (gs1 (gN 6) gs0))) (mCallK mends_told 1 0 [] [.p 0] (mCons (mBin dIx (mVar 0) (mBin dSub (mVar 2) (mC (.int 1)))) mNil) mNil)) (sApp 1 (mNew 9 iTrip 3 0 [.int 1] [.p 0, .p 1, .p 2] (mCons (mVar 5) (mCons (mVar 6) (mCons (mVar 4) mNil))) mNil))))))) (sSeq (sIf (mOrT (mTest (mBin (dEq false) (mCB dLen (mCons (mVar 0) mNil)) (mC (.int 0)))) (mTest (mBin (dEq false) (mBin dMod (mCB dLen (mCons (mVar 0) mNil)) (mC (.int 2))) (mC (.int 1))))) (sRaise 5 2 0 [] [.p 0, .p 1] 2 (mCons (mC (.int 0)) (mCons (mCB dLen (mCons (mVar 0) mNil)) mNil)) mNil) sNx) (sFrz 1 (sRet (mVar 1))))))
def mtrips_in : List D → M D := fnM 1 7 btrips_in
theorem oktrips_in (hS : ∃ o, base.get? sysModules = some o) (hTB : ∀ p ∈ tb, LamX.TabB base mg p.1 p.2) (T : Tp K mg cs tb) : FnW P w K mg base (sg K cs tb) 5 "trips_in" (top 32) [] ["words"] mtrips_in := by
  obtain ⟨f, fd, F, hm, hk⟩ := T.dtrips_in
  have okTrip___init__ := okTrip___init__ (P := P) (w := w) (base := base) hS hTB T
  have okends_told := okends_told (P := P) (w := w) (base := base) hS hTB T
  have okprice_at := okprice_at (P := P) (w := w) (base := base) hS hTB T
  refine ⟨f, fd, fn_okM (k := 4) (N := Ntrips_in) (S := sg K cs tb) (body := btrips_in) F.g (scpB_of (by kernel_rfl)) fun cdv A outer s pen G0 H E hcv hg hr => ?_, F, hm, hk⟩
  have B := @Bx.def P w K mg base Ntrips_in "trips_in" (defScope (top 32)) f cdv A outer s H E (sg K cs tb) pen G0 H 4 hg hr rfl hS
  exact (mss_cons (ms_newL (i := 1) (nodB_of (by kernel_rfl)) (ixB_of (by kernel_rfl)) (locB_of (by kernel_rfl)) ma_nil) (mss_cons (ms_for (js := [2, 3]) (passes_of rfl) B.calm (mi_enu B.hK (T.bn _ (by kernel_rfl)) (by kernel_rfl) (ma_cons (me_v (i := 0) (by kernel_rfl)) ma_nil)) (mg_tup B.hK B.calm (mgs_cons (mg_nm (i := 2) (by kernel_rfl) (by kernel_rfl) (by kernel_rfl) (by kernel_rfl)) (mgs_cons (mg_nm (i := 3) (by kernel_rfl) (by kernel_rfl) (by kernel_rfl) (by kernel_rfl)) mgs_nil)) (n := 2) rfl (gl1 (gl1 gl0))) (mss_one (ms_if (mt_cm (c_eq B) (me_mod (me_v (i := 2) (by kernel_rfl)) me_int) me_int) (mss_one (ms_if (PW.pt (mw_or (mt_cm c_ge (me_v (i := 2) (by kernel_rfl)) (me_mul me_int (me_cn (c := (.i 12)) (T.cn 3 _ _ rfl) (by kernel_rfl) (by kernel_rfl)))) (mw_or1 (mt_cm c_is (me_call B (k := 2) (ks := []) (l := [.p 0]) (FnW.t (ks := []) (dvs := []) (l := [.p 0]) okends_told (fun f fd F => bdW0 F (fun s kV doc pm an cdv ct us ws h1 h2 => match us, ws, h1, h2 with | [_], [], _, _ => .of_eq (by kernel_rfl))) (by kernel_rfl)) (by kernel_rfl) (by kernel_rfl) (by kernel_rfl) (pak_pos (ma_cons (me_v (i := 3) (by kernel_rfl)) ma_nil))) me_non)))) (mss_one (ms_thr (c := 5) B (xt_5_2 T) (by kernel_rfl) (by kernel_rfl) (by kernel_rfl) (pak_pos (ma_cons me_int (ma_cons (me_v (i := 2) (by kernel_rfl)) ma_nil))))) mss_nil)) (mss_cons (ms_st (i := 4) (by kernel_rfl) (by kernel_rfl) (me_call B (k := 3) (ks := []) (l := [.p 0, .p 1]) (FnW.t (ks := []) (dvs := []) (l := [.p 0, .p 1]) okprice_at (fun f fd F => bdW0 F (fun s kV doc pm an cdv ct us ws h1 h2 => match us, ws, h1, h2 with | [_, _], [], _, _ => .of_eq (by kernel_rfl))) (by kernel_rfl)) (by kernel_rfl) (by kernel_rfl) (by kernel_rfl) (pak_pos (ma_cons (me_v (i := 0) (by kernel_rfl)) (ma_cons (me_v (i := 2) (by kernel_rfl)) ma_nil))))) (mss_cons (ms_if (mt_cm c_is (me_v (i := 4) (by kernel_rfl)) me_non) (mss_one (ms_thr (c := 5) B (xt_5_2 T) (by kernel_rfl) (by kernel_rfl) (by kernel_rfl) (pak_pos (ma_cons me_int (ma_cons (me_v (i := 2) (by kernel_rfl)) ma_nil))))) mss_nil) (mss_cons (ms_unp (js := [5, 6]) (me_call B (k := 2) (ks := []) (l := [.p 0]) (FnW.t (ks := []) (dvs := []) (l := [.p 0]) okends_told (fun f fd F => bdW0 F (fun s kV doc pm an cdv ct us ws h1 h2 => match us, ws, h1, h2 with | [_], [], _, _ => .of_eq (by kernel_rfl))) (by kernel_rfl)) (by kernel_rfl) (by kernel_rfl) (by kernel_rfl) (pak_pos (ma_cons (me_ix B.hK (me_v (i := 0) (by kernel_rfl)) (me_sub (me_v (i := 2) (by kernel_rfl)) me_int) fun _ _ => rfl) ma_nil))) (mg_tup B.hK B.calm (mgs_cons (mg_nm (i := 5) (by kernel_rfl) (by kernel_rfl) (by kernel_rfl) (by kernel_rfl)) (mgs_cons (mg_nm (i := 6) (by kernel_rfl) (by kernel_rfl) (by kernel_rfl) (by kernel_rfl)) mgs_nil)) (n := 2) rfl (gl1 (gl1 gl0)))) (mss_one (ms_app (i := 1) (ixB_of (by kernel_rfl)) (visB_of (by kernel_rfl)) B.hK (me_new (c := 9) B (k := 3) (ks := []) (l := [.p 0, .p 1, .p 2]) (InW.t (ks := []) (dvs := [.int 1]) (l := [.p 0, .p 1, .p 2]) okTrip___init__ (T.cm 9 _ (by kernel_rfl)) T.b4 (fun f fd F => bdW1 F (fun T kV doc pm an cdv ct us its ws h1 h2 h3 => match us, its, ws, h1, h2, h3 with | [_, _, _, _], [_], [], _, _, _ => ⟨_, rfl, rfl⟩)) (by kernel_rfl)) (by kernel_rfl) (by kernel_rfl) (by kernel_rfl) (pak_pos (ma_cons (me_v (i := 5) (by kernel_rfl)) (ma_cons (me_v (i := 6) (by kernel_rfl)) (ma_cons (me_v (i := 4) (by kernel_rfl)) ma_nil))))))))))))) (mss_cons (ms_if (PW.pt (mw_or (mt_cm (c_eq B) (me_b (b_len B) (T.bn _ (by kernel_rfl)) (by kernel_rfl) (by kernel_rfl) (ma_cons (me_v (i := 0) (by kernel_rfl)) ma_nil)) me_int) (mw_or1 (mt_cm (c_eq B) (me_mod (me_b (b_len B) (T.bn _ (by kernel_rfl)) (by kernel_rfl) (by kernel_rfl) (ma_cons (me_v (i := 0) (by kernel_rfl)) ma_nil)) me_int) me_int)))) (mss_one (ms_thr (c := 5) B (xt_5_2 T) (by kernel_rfl) (by kernel_rfl) (by kernel_rfl) (pak_pos (ma_cons me_int (ma_cons (me_b (b_len B) (T.bn _ (by kernel_rfl)) (by kernel_rfl) (by kernel_rfl) (ma_cons (me_v (i := 0) (by kernel_rfl)) ma_nil)) ma_nil))))) mss_nil) (mss_frz (i := 1) (mss_one (ms_ret (me_v (i := 1) (by kernel_rfl))))))))
/-! ### Tour_read -/
def NTour_read : List Str := ["cls", "text", "trips"]
def bTour_read : SX := (sSeq (sIf (mNotT (mTru (mCB (dIsi isT) (mCons (mVar 1) (mCons (mC (.ty "str")) mNil))))) (sRaise 5 2 0 [] [.p 0, .p 1] 2 (mCons (mC (.int 0)) (mCons (mC (.int 0)) mNil)) mNil) sNx) (sSeq (sSet 2 (mCallK mtrips_in 1 0 [] [.p 0] (mCons (mSM dSplit (mVar 1) (mCons (mC (.str " ")) mNil)) mNil) mNil)) (sRet (mNewV 0 10 (mNewS 10 iTour (mStar (mVar 2)))))))
def mTour_read : List D → M D := fnM 2 3 bTour_read
theorem okTour_read (hS : ∃ o, base.get? sysModules = some o) (hTB : ∀ p ∈ tb, LamX.TabB base mg p.1 p.2) (T : Tp K mg cs tb) : CfW P w K mg base (sg K cs tb) 6 10 "read" "Tour.read" (inClass (top 33) 1) [] ["cls", "text"] mTour_read := by
  obtain ⟨pr, f, fd, F, h1, h2⟩ := T.wTour_read
  have okTour___init__ := okTour___init__ (P := P) (w := w) (base := base) hS hTB T
  have oktrips_in := oktrips_in (P := P) (w := w) (base := base) hS hTB T
  refine ⟨pr, f, fd, fn_okM (k := 5) (N := NTour_read) (S := sg K cs tb) (body := bTour_read) F.g (scpB_of (by kernel_rfl)) fun cdv A outer s pen G0 H E hcv hg hr => ?_, F, h1, h2⟩
  have B := @Bx.def P w K mg base NTour_read "Tour.read" (defScope (inClass (top 33) 1)) f cdv A outer s H E (sg K cs tb) pen G0 H 5 hg hr rfl hS
  exact (mss_cons (ms_if (mt_not (mt_tru B.hK (me_b (b_isi B T.isf) (T.bn _ (by kernel_rfl)) (by kernel_rfl) (by kernel_rfl) (ma_cons (me_v (i := 1) (by kernel_rfl)) (ma_cons (me_tyn (t := "str") (T.bn _ (by kernel_rfl)) (by kernel_rfl) (by kernel_rfl) (by kernel_rfl)) ma_nil))))) (mss_one (ms_thr (c := 5) B (xt_5_2 T) (by kernel_rfl) (by kernel_rfl) (by kernel_rfl) (pak_pos (ma_cons me_int (ma_cons me_int ma_nil))))) mss_nil) (mss_cons (ms_st (i := 2) (by kernel_rfl) (by kernel_rfl) (me_call B (k := 5) (ks := []) (l := [.p 0]) (FnW.t (ks := []) (dvs := []) (l := [.p 0]) oktrips_in (fun f fd F => bdW0 F (fun s kV doc pm an cdv ct us ws h1 h2 => match us, ws, h1, h2 with | [_], [], _, _ => .of_eq (by kernel_rfl))) (by kernel_rfl)) (by kernel_rfl) (by kernel_rfl) (by kernel_rfl) (pak_pos (ma_cons (me_sm PySem.F.slot_str_split PySem.F.type_str_split mt_split r_split (me_v (i := 1) (by kernel_rfl)) (ma_cons me_str ma_nil)) ma_nil)))) (mss_one (ms_ret (me_newVS (i := 0) (c := 10) (x := "Tour") B (k := 4) (InV.t okTour___init__ (T.cm 10 _ (by kernel_rfl)) T.b9) (by kernel_rfl) (by kernel_rfl) (pas_star (me_v (i := 2) (by kernel_rfl)) B.hK))))))
/-! ### _law_words -/
def N_law_words : List Str := ["_law_rows_here", "_law_start", "_law_goal", "_law_price"]
def b_law_words : SX := (sRet (mSM dJoin (mC (.str ", ")) (mCons (mComp (iAny itL (mVar 0)) (gT (gs1 (gN 1) (gs1 (gN 2) (gs1 (gN 3) gs0)))) mYes (mBin dAdd (mBin dAdd (mBin dAdd (mBin dAdd (mVar 1) (mC (.str ">"))) (mVar 2)) (mC (.str " "))) (mCB dStr1 (mCons (mVar 3) mNil))) [1, 2, 3]) mNil)))
def m_law_words : List D → M D := fnM 1 4 b_law_words
theorem ok_law_words (hS : ∃ o, base.get? sysModules = some o) (hTB : ∀ p ∈ tb, LamX.TabB base mg p.1 p.2) (T : Tp K mg cs tb) : FnW P w K mg base (sg K cs tb) 2 "_law_words" (top 39) [] ["_law_rows_here"] m_law_words := by
  obtain ⟨f, fd, F, hm, hk⟩ := T.d_law_words
  refine ⟨f, fd, fn_okM (k := 1) (N := N_law_words) (S := sg K cs tb) (body := b_law_words) F.g (scpB_of (by kernel_rfl)) fun cdv A outer s pen G0 H E hcv hg hr => ?_, F, hm, hk⟩
  have B := @Bx.def P w K mg base N_law_words "_law_words" (defScope (top 39)) f cdv A outer s H E (sg K cs tb) pen G0 H 1 hg hr rfl hS
  exact (mss_one (ms_ret (me_sm PySem.F.slot_str_join PySem.F.type_str_join mt_join (r_join B.hK) me_str (ma_cons (me_lc (own := [("_law_start", 1), ("_law_goal", 2), ("_law_price", 3)]) B.calm (nodB_of (by kernel_rfl)) (mi_any (k := 1) B (itab T) (by kernel_rfl) (me_v (i := 0) (by kernel_rfl))) (blkB_of (by kernel_rfl)) (fun s H C cl fp => (mg_tup B.blk.hK B.blk.calm (mgs_cons (mg_nm (i := 1) (by kernel_rfl) (by kernel_rfl) (by kernel_rfl) (by kernel_rfl)) (mgs_cons (mg_nm (i := 2) (by kernel_rfl) (by kernel_rfl) (by kernel_rfl) (by kernel_rfl)) (mgs_cons (mg_nm (i := 3) (by kernel_rfl) (by kernel_rfl) (by kernel_rfl) (by kernel_rfl)) mgs_nil))) (n := 3) rfl (gl1 (gl1 (gl1 gl0))))) (fun s H C cl fp => mts_nil) (fun s H C cl fp => (me_add B.blk (me_add B.blk (me_add B.blk (me_add B.blk (me_v (i := 1) (by kernel_rfl)) me_str) (me_v (i := 2) (by kernel_rfl))) me_str) (me_b (b_str B.blk) (T.bn _ (by kernel_rfl)) (by kernel_rfl) (by kernel_rfl) (ma_cons (me_v (i := 3) (by kernel_rfl)) ma_nil))))) ma_nil))))
/-! ### _law_tour -/
def N_law_tour : List Str := ["_law_rows_here", "_law_trips", "_law_start", "_law_goal", "_law_price"]
def b_law_tour : SX := (sSeq (sSet 1 (mComp (iAny itL (mVar 0)) (gT (gs1 (gN 2) (gs1 (gN 3) (gs1 (gN 4) gs0)))) mYes (mNew 9 iTrip 3 0 [.int 1] [.p 0, .p 1, .p 2] (mCons (mVar 2) (mCons (mVar 3) (mCons (mVar 4) mNil))) mNil) [2, 3, 4])) (sSeq (sIf (mTest (mBin (dEq false) (mCB dLen (mCons (mVar 1) mNil)) (mC (.int 2)))) (sRet (mNewS 10 iTour (mCons (mBin dIx (mVar 1) (mC (.int 0))) (mCons (mBin dIx (mVar 1) (mC (.int 1))) mNil)))) sNx) (sSeq (sIf (mTest (mBin (dEq false) (mCB dLen (mCons (mVar 1) mNil)) (mC (.int 3)))) (sRet (mNewS 10 iTour (mCons (mBin dIx (mVar 1) (mC (.int 0))) (mCons (mBin dIx (mVar 1) (mC (.int 1))) (mCons (mBin dIx (mVar 1) (mC (.int 2))) mNil))))) sNx) (sRet (mIf (mTest (mBin (dEq false) (mCB dLen (mCons (mVar 1) mNil)) (mC (.int 4)))) (mNewS 10 iTour (mCons (mBin dIx (mVar 1) (mC (.int 0))) (mCons (mBin dIx (mVar 1) (mC (.int 1))) (mCons (mBin dIx (mVar 1) (mC (.int 2))) (mCons (mBin dIx (mVar 1) (mC (.int 3))) mNil))))) (mCM 10 mTour_read 1 0 [] [.p 0] (mCons (mCallK m_law_words 1 0 [] [.p 0] (mCons (mVar 0) mNil) mNil) mNil) mNil))))))
def m_law_tour : List D → M D := fnM 1 5 b_law_tour
theorem ok_law_tour (hS : ∃ o, base.get? sysModules = some o) (hTB : ∀ p ∈ tb, LamX.TabB base mg p.1 p.2) (T : Tp K mg cs tb) : FnW P w K mg base (sg K cs tb) 7 "_law_tour" (top 41) [] ["_law_rows_here"] m_law_tour := by
  obtain ⟨f, fd, F, hm, hk⟩ := T.d_law_tour
  have okTrip___init__ := okTrip___init__ (P := P) (w := w) (base := base) hS hTB T
  have okTour___init__ := okTour___init__ (P := P) (w := w) (base := base) hS hTB T
  have okTour_read := okTour_read (P := P) (w := w) (base := base) hS hTB T
  have ok_law_words := ok_law_words (P := P) (w := w) (base := base) hS hTB T
  refine ⟨f, fd, fn_okM (k := 6) (N := N_law_tour) (S := sg K cs tb) (body := b_law_tour) F.g (scpB_of (by kernel_rfl)) fun cdv A outer s pen G0 H E hcv hg hr => ?_, F, hm, hk⟩
  have B := @Bx.def P w K mg base N_law_tour "_law_tour" (defScope (top 41)) f cdv A outer s H E (sg K cs tb) pen G0 H 6 hg hr rfl hS
  exact (mss_cons (ms_setLc (own := [("_law_start", 2), ("_law_goal", 3), ("_law_price", 4)]) (i := 1) B.calm (nodB_of (by kernel_rfl)) (ixB_of (by kernel_rfl)) (lclB_of (by kernel_rfl)) rfl (mi_any (k := 1) B (itab T) (by kernel_rfl) (me_v (i := 0) (by kernel_rfl))) (blkB_of (by kernel_rfl)) (fun s H C cl fp => (mg_tup B.blk.hK B.blk.calm (mgs_cons (mg_nm (i := 2) (by kernel_rfl) (by kernel_rfl) (by kernel_rfl) (by kernel_rfl)) (mgs_cons (mg_nm (i := 3) (by kernel_rfl) (by kernel_rfl) (by kernel_rfl) (by kernel_rfl)) (mgs_cons (mg_nm (i := 4) (by kernel_rfl) (by kernel_rfl) (by kernel_rfl) (by kernel_rfl)) mgs_nil))) (n := 3) rfl (gl1 (gl1 (gl1 gl0))))) (fun s H C cl fp => mts_nil) (fun s H C cl fp => (me_new (c := 9) B.blk (k := 3) (ks := []) (l := [.p 0, .p 1, .p 2]) (InW.t (ks := []) (dvs := [.int 1]) (l := [.p 0, .p 1, .p 2]) okTrip___init__ (T.cm 9 _ (by kernel_rfl)) T.b4 (fun f fd F => bdW1 F (fun T kV doc pm an cdv ct us its ws h1 h2 h3 => match us, its, ws, h1, h2, h3 with | [_, _, _, _], [_], [], _, _, _ => ⟨_, rfl, rfl⟩)) (by kernel_rfl)) (by kernel_rfl) (by kernel_rfl) (by kernel_rfl) (pak_pos (ma_cons (me_v (i := 2) (by kernel_rfl)) (ma_cons (me_v (i := 3) (by kernel_rfl)) (ma_cons (me_v (i := 4) (by kernel_rfl)) ma_nil))))))) (mss_cons (ms_if (mt_cm (c_eq B) (me_b (b_len B) (T.bn _ (by kernel_rfl)) (by kernel_rfl) (by kernel_rfl) (ma_cons (me_v (i := 1) (by kernel_rfl)) ma_nil)) me_int) (mss_one (ms_ret (me_newS (c := 10) B (k := 4) (InV.t okTour___init__ (T.cm 10 _ (by kernel_rfl)) T.b9) (by kernel_rfl) (by kernel_rfl) (by kernel_rfl) (pas_pos (ma_cons (me_ix B.hK (me_v (i := 1) (by kernel_rfl)) me_int fun _ _ => rfl) (ma_cons (me_ix B.hK (me_v (i := 1) (by kernel_rfl)) me_int fun _ _ => rfl) ma_nil)))))) mss_nil) (mss_cons (ms_if (mt_cm (c_eq B) (me_b (b_len B) (T.bn _ (by kernel_rfl)) (by kernel_rfl) (by kernel_rfl) (ma_cons (me_v (i := 1) (by kernel_rfl)) ma_nil)) me_int) (mss_one (ms_ret (me_newS (c := 10) B (k := 4) (InV.t okTour___init__ (T.cm 10 _ (by kernel_rfl)) T.b9) (by kernel_rfl) (by kernel_rfl) (by kernel_rfl) (pas_pos (ma_cons (me_ix B.hK (me_v (i := 1) (by kernel_rfl)) me_int fun _ _ => rfl) (ma_cons (me_ix B.hK (me_v (i := 1) (by kernel_rfl)) me_int fun _ _ => rfl) (ma_cons (me_ix B.hK (me_v (i := 1) (by kernel_rfl)) me_int fun _ _ => rfl) ma_nil))))))) mss_nil) (mss_one (ms_ret (me_if (mt_cm (c_eq B) (me_b (b_len B) (T.bn _ (by kernel_rfl)) (by kernel_rfl) (by kernel_rfl) (ma_cons (me_v (i := 1) (by kernel_rfl)) ma_nil)) me_int) (me_newS (c := 10) B (k := 4) (InV.t okTour___init__ (T.cm 10 _ (by kernel_rfl)) T.b9) (by kernel_rfl) (by kernel_rfl) (by kernel_rfl) (pas_pos (ma_cons (me_ix B.hK (me_v (i := 1) (by kernel_rfl)) me_int fun _ _ => rfl) (ma_cons (me_ix B.hK (me_v (i := 1) (by kernel_rfl)) me_int fun _ _ => rfl) (ma_cons (me_ix B.hK (me_v (i := 1) (by kernel_rfl)) me_int fun _ _ => rfl) (ma_cons (me_ix B.hK (me_v (i := 1) (by kernel_rfl)) me_int fun _ _ => rfl) ma_nil)))))) (me_clm (c := 10) B (k := 6) (ks := []) (l := [.p 0]) (CfW.t (ks := []) (dvs := []) (l := [.p 0]) okTour_read (fun f fd F => bdW0 F (fun s kV doc pm an cdv ct us ws h1 h2 => match us, ws, h1, h2 with | [_, _], [], _, _ => .of_eq (by kernel_rfl))) (by kernel_rfl)) (by kernel_rfl) (T.cm 10 _ (by kernel_rfl)) (by kernel_rfl) (by kernel_rfl) (pam_pos (ma_cons (me_call B (k := 2) (ks := []) (l := [.p 0]) (FnW.t (ks := []) (dvs := []) (l := [.p 0]) ok_law_words (fun f fd F => bdW0 F (fun s kV doc pm an cdv ct us ws h1 h2 => match us, ws, h1, h2 with | [_], [], _, _ => .of_eq (by kernel_rfl))) (by kernel_rfl)) (by kernel_rfl) (by kernel_rfl) (by kernel_rfl) (pak_pos (ma_cons (me_v (i := 0) (by kernel_rfl)) ma_nil))) ma_nil)))))))))
/-! ### Trip___str__ -/
def NTrip___str__ : List Str := ["self"]
def bTrip___str__ : SX := (sRet (mJoin [(mUn dFmt (mUn (dFld [(9, 0)] []) (mVar 0))), (mC (.str ">")), (mUn dFmt (mUn (dFld [(9, 1)] []) (mVar 0))), (mC (.str " ")), (mUn dFmt (mUn (dFld [(9, 2)] []) (mVar 0)))] Str.empty))
def mTrip___str__ : List D → M D := fnM 1 1 bTrip___str__
theorem okTrip___str__ (hS : ∃ o, base.get? sysModules = some o) (hTB : ∀ p ∈ tb, LamX.TabB base mg p.1 p.2) (T : Tp K mg cs tb) : MfW P w K mg base (sg K cs tb) 1 9 "__str__" "Trip.__str__" (inClass (top 23) 7) [] ["self"] mTrip___str__ := by
  obtain ⟨f, fd, F, h1, h2, h3⟩ := T.wTrip___str__
  refine ⟨f, fd, fn_okM (k := 0) (N := NTrip___str__) (S := sg K cs tb) (body := bTrip___str__) F.g (scpB_of (by kernel_rfl)) fun cdv A outer s pen G0 H E hcv hg hr => ?_, F, h1, h2, h3⟩
  have B := @Bx.def P w K mg base NTrip___str__ "Trip.__str__" (defScope (inClass (top 23) 7)) f cdv A outer s H E (sg K cs tb) pen G0 H 0 hg hr rfl hS
  exact (mss_one (ms_ret (me_join (.cons (me_fmt (me_f B T.b5 (by rfl) (me_v (i := 0) (by kernel_rfl)))) (.cons me_str (.cons (me_fmt (me_f B T.b6 (by rfl) (me_v (i := 0) (by kernel_rfl)))) (.cons me_str (.cons (me_fmt (me_f B T.b11 (by rfl) (me_v (i := 0) (by kernel_rfl)))) .nil))))))))
/-! ### Tour___str__ -/
def NTour___str__ : List Str := ["self", "trip"]
def bTour___str__ : SX := (sRet (mSM dJoin (mC (.str ", ")) (mCons (mComp (iAny itL (mUn (dFld [(10, 0)] []) (mVar 0))) (gN 1) mYes (mUn (dFmtS [(9, mTrip___str__)]) (mVar 1)) [1]) mNil)))
def mTour___str__ : List D → M D := fnM 1 2 bTour___str__
theorem okTour___str__ (hS : ∃ o, base.get? sysModules = some o) (hTB : ∀ p ∈ tb, LamX.TabB base mg p.1 p.2) (T : Tp K mg cs tb) : MfW P w K mg base (sg K cs tb) 4 10 "__str__" "Tour.__str__" (inClass (top 33) 21) [] ["self"] mTour___str__ := by
  obtain ⟨f, fd, F, h1, h2, h3⟩ := T.wTour___str__
  have okTrip___str__ := okTrip___str__ (P := P) (w := w) (base := base) hS hTB T
  refine ⟨f, fd, fn_okM (k := 3) (N := NTour___str__) (S := sg K cs tb) (body := bTour___str__) F.g (scpB_of (by kernel_rfl)) fun cdv A outer s pen G0 H E hcv hg hr => ?_, F, h1, h2, h3⟩
  have B := @Bx.def P w K mg base NTour___str__ "Tour.__str__" (defScope (inClass (top 33) 21)) f cdv A outer s H E (sg K cs tb) pen G0 H 3 hg hr rfl hS
  exact (mss_one (ms_ret (me_sm PySem.F.slot_str_join PySem.F.type_str_join mt_join (r_join B.hK) me_str (ma_cons (me_lc (own := [("trip", 1)]) B.calm (nodB_of (by kernel_rfl)) (mi_any (k := 1) B (itab T) (by kernel_rfl) (me_f B T.b10 (by rfl) (me_v (i := 0) (by kernel_rfl)))) (blkB_of (by kernel_rfl)) (fun s H C cl fp => (mg_nm (i := 1) (by kernel_rfl) (by kernel_rfl) (by kernel_rfl) (by kernel_rfl))) (fun s H C cl fp => mts_nil) (fun s H C cl fp => (me_fmtS (k := 1) B.blk (tab1 (OwnT.mono (k := 1) (MfW.o okTrip___str__ (fun f fd F => bdW0 F (fun s kV doc pm an cdv ct us ws h1 h2 => match us, ws, h1, h2 with | [_], [], _, _ => .of_eq (by kernel_rfl)))) (by kernel_rfl))) (by kernel_rfl) (me_v (i := 1) (by kernel_rfl))))) ma_nil))))
/-! ### Trip___eq__ -/
def NTrip___eq__ : List Str := ["self", "other"]
def bTrip___eq__ : SX := (sSeq (sIf (mNotT (mTru (mCB (dIsi isT) (mCons (mVar 1) (mCons (mC (.cls 9)) mNil))))) (sRet (mC (.bl false))) sNx) (sRet (mBin (dEq false) (mTup (mCons (mUn (dFld [(9, 0)] []) (mVar 0)) (mCons (mUn (dFld [(9, 1)] []) (mVar 0)) (mCons (mUn (dFld [(9, 2)] []) (mVar 0)) mNil)))) (mTup (mCons (mUn (dFld [(9, 0)] []) (mVar 1)) (mCons (mUn (dFld [(9, 1)] []) (mVar 1)) (mCons (mUn (dFld [(9, 2)] []) (mVar 1)) mNil)))))))
def mTrip___eq__ : List D → M D := fnM 2 2 bTrip___eq__
theorem okTrip___eq__ (hS : ∃ o, base.get? sysModules = some o) (hTB : ∀ p ∈ tb, LamX.TabB base mg p.1 p.2) (T : Tp K mg cs tb) : MfW P w K mg base (sg K cs tb) 1 9 "__eq__" "Trip.__eq__" (inClass (top 23) 6) [] ["self", "other"] mTrip___eq__ := by
  obtain ⟨f, fd, F, h1, h2, h3⟩ := T.wTrip___eq__
  refine ⟨f, fd, fn_okM (k := 0) (N := NTrip___eq__) (S := sg K cs tb) (body := bTrip___eq__) F.g (scpB_of (by kernel_rfl)) fun cdv A outer s pen G0 H E hcv hg hr => ?_, F, h1, h2, h3⟩
  have B := @Bx.def P w K mg base NTrip___eq__ "Trip.__eq__" (defScope (inClass (top 23) 6)) f cdv A outer s H E (sg K cs tb) pen G0 H 0 hg hr rfl hS
  exact (mss_cons (ms_if (mt_not (mt_tru B.hK (me_b (b_isi B T.isf) (T.bn _ (by kernel_rfl)) (by kernel_rfl) (by kernel_rfl) (ma_cons (me_v (i := 1) (by kernel_rfl)) (ma_cons (me_cls (c := 9) (T.cm 9 _ (by kernel_rfl)) (by kernel_rfl) (by kernel_rfl)) ma_nil))))) (mss_one (ms_ret me_bl)) mss_nil) (mss_one (ms_ret (me_cm (c_eq B) (me_tup (ma_cons (me_f B T.b5 (by rfl) (me_v (i := 0) (by kernel_rfl))) (ma_cons (me_f B T.b6 (by rfl) (me_v (i := 0) (by kernel_rfl))) (ma_cons (me_f B T.b11 (by rfl) (me_v (i := 0) (by kernel_rfl))) ma_nil)))) (me_tup (ma_cons (me_f B T.b5 (by rfl) (me_v (i := 1) (by kernel_rfl))) (ma_cons (me_f B T.b6 (by rfl) (me_v (i := 1) (by kernel_rfl))) (ma_cons (me_f B T.b11 (by rfl) (me_v (i := 1) (by kernel_rfl))) ma_nil))))))))
/-! ### Tour___eq__ -/
def NTour___eq__ : List Str := ["self", "other"]
def bTour___eq__ : SX := (sRet (mAndV (mCB (dIsi isT) (mCons (mVar 1) (mCons (mC (.cls 10)) mNil))) (mBin (dTeq [(9, mTrip___eq__)]) (mUn (dFld [(10, 0)] []) (mVar 0)) (mUn (dFld [(10, 0)] []) (mVar 1)))))
def mTour___eq__ : List D → M D := fnM 2 2 bTour___eq__
theorem okTour___eq__ (hS : ∃ o, base.get? sysModules = some o) (hTB : ∀ p ∈ tb, LamX.TabB base mg p.1 p.2) (T : Tp K mg cs tb) : MfW P w K mg base (sg K cs tb) 3 10 "__eq__" "Tour.__eq__" (inClass (top 33) 20) [] ["self", "other"] mTour___eq__ := by
  obtain ⟨f, fd, F, h1, h2, h3⟩ := T.wTour___eq__
  have okTrip___eq__ := okTrip___eq__ (P := P) (w := w) (base := base) hS hTB T
  refine ⟨f, fd, fn_okM (k := 2) (N := NTour___eq__) (S := sg K cs tb) (body := bTour___eq__) F.g (scpB_of (by kernel_rfl)) fun cdv A outer s pen G0 H E hcv hg hr => ?_, F, h1, h2, h3⟩
  have B := @Bx.def P w K mg base NTour___eq__ "Tour.__eq__" (defScope (inClass (top 33) 20)) f cdv A outer s H E (sg K cs tb) pen G0 H 2 hg hr rfl hS
  exact (mss_one (ms_ret (me_and (me_b (b_isi B T.isf) (T.bn _ (by kernel_rfl)) (by kernel_rfl) (by kernel_rfl) (ma_cons (me_v (i := 1) (by kernel_rfl)) (ma_cons (me_cls (c := 10) (T.cm 10 _ (by kernel_rfl)) (by kernel_rfl) (by kernel_rfl)) ma_nil))) (me_one (me_cm (c_teq (k := 1) (cs := [9]) B (tab1 (OwnT.mono (k := 1) (MfW.o okTrip___eq__ (fun f fd F => bdW0 F (fun s kV doc pm an cdv ct us ws h1 h2 => match us, ws, h1, h2 with | [_, _], [], _, _ => .of_eq (by kernel_rfl)))) (by kernel_rfl))) (by kernel_rfl) rfl T.b12) (me_f B T.b10 (by rfl) (me_v (i := 0) (by kernel_rfl))) (me_f B T.b10 (by rfl) (me_v (i := 1) (by kernel_rfl))))))))
/-! ### Tour___rshift__ -/
def NTour___rshift__ : List Str := ["self", "k", "first", "trips"]
def bTour___rshift__ : SX := (sSeq (sIf (mNotT (mTru (mCallK mis_integer 1 0 [] [.p 0] (mCons (mVar 1) mNil) mNil))) (sRaise 4 1 0 [] [.p 0] 1 (mCons (mC (.str "other")) mNil) mNil) sNx) (sSeq (sSet 2 (mBin dMod (mVar 1) (mCB dLen (mCons (mUn (dFld [(10, 0)] []) (mVar 0)) mNil)))) (sSeq (sSet 3 (mBin dAdd (mSlA (mUn (dFld [(10, 0)] []) (mVar 0)) (some (mVar 2)) none) (mSlA (mUn (dFld [(10, 0)] []) (mVar 0)) none (some (mVar 2))))) (sRet (mNewS 10 iTour (mStar (mVar 3)))))))
def mTour___rshift__ : List D → M D := fnM 2 4 bTour___rshift__
theorem okTour___rshift__ (hS : ∃ o, base.get? sysModules = some o) (hTB : ∀ p ∈ tb, LamX.TabB base mg p.1 p.2) (T : Tp K mg cs tb) : MfW P w K mg base (sg K cs tb) 6 10 "__rshift__" "Tour.__rshift__" (inClass (top 33) 19) [] ["self", "k"] mTour___rshift__ := by
  obtain ⟨f, fd, F, h1, h2, h3⟩ := T.wTour___rshift__
  have okis_integer := okis_integer (P := P) (w := w) (base := base) hS hTB T
  have okTour___init__ := okTour___init__ (P := P) (w := w) (base := base) hS hTB T
  refine ⟨f, fd, fn_okM (k := 5) (N := NTour___rshift__) (S := sg K cs tb) (body := bTour___rshift__) F.g (scpB_of (by kernel_rfl)) fun cdv A outer s pen G0 H E hcv hg hr => ?_, F, h1, h2, h3⟩
  have B := @Bx.def P w K mg base NTour___rshift__ "Tour.__rshift__" (defScope (inClass (top 33) 19)) f cdv A outer s H E (sg K cs tb) pen G0 H 5 hg hr rfl hS
  exact (mss_cons (ms_if (mt_not (mt_tru B.hK (me_call B (k := 1) (ks := []) (l := [.p 0]) (FnW.t (ks := []) (dvs := []) (l := [.p 0]) okis_integer (fun f fd F => bdW0 F (fun s kV doc pm an cdv ct us ws h1 h2 => match us, ws, h1, h2 with | [_], [], _, _ => .of_eq (by kernel_rfl))) (by kernel_rfl)) (by kernel_rfl) (by kernel_rfl) (by kernel_rfl) (pak_pos (ma_cons (me_v (i := 1) (by kernel_rfl)) ma_nil))))) (mss_one (ms_thr (c := 4) B (xt_4_1 T) (by kernel_rfl) (by kernel_rfl) (by kernel_rfl) (pak_pos (ma_cons me_str ma_nil)))) mss_nil) (mss_cons (ms_st (i := 2) (by kernel_rfl) (by kernel_rfl) (me_mod (me_v (i := 1) (by kernel_rfl)) (me_b (b_len B) (T.bn _ (by kernel_rfl)) (by kernel_rfl) (by kernel_rfl) (ma_cons (me_f B T.b10 (by rfl) (me_v (i := 0) (by kernel_rfl))) ma_nil)))) (mss_cons (ms_st (i := 3) (by kernel_rfl) (by kernel_rfl) (me_add B (me_slA B.hK (me_f B T.b10 (by rfl) (me_v (i := 0) (by kernel_rfl))) (mo_some (me_v (i := 2) (by kernel_rfl))) mo_none) (me_slA B.hK (me_f B T.b10 (by rfl) (me_v (i := 0) (by kernel_rfl))) mo_none (mo_some (me_v (i := 2) (by kernel_rfl)))))) (mss_one (ms_ret (me_newS (c := 10) B (k := 4) (InV.t okTour___init__ (T.cm 10 _ (by kernel_rfl)) T.b9) (by kernel_rfl) (by kernel_rfl) (by kernel_rfl) (pas_star (me_v (i := 3) (by kernel_rfl)) B.hK)))))))
/-! ### _law_rows -/
def N_law_rows : List Str := ["_law_tour_here", "_law_trip"]
def b_law_rows : SX := (sRet (mComp (iAny itL (mVar 0)) (gN 1) mYes (mTup (mCons (mUn (dFld [(9, 0)] []) (mVar 1)) (mCons (mUn (dFld [(9, 1)] []) (mVar 1)) (mCons (mUn (dFld [(9, 2)] []) (mVar 1)) mNil)))) [1]))
def m_law_rows : List D → M D := fnM 1 2 b_law_rows
theorem ok_law_rows (hS : ∃ o, base.get? sysModules = some o) (hTB : ∀ p ∈ tb, LamX.TabB base mg p.1 p.2) (T : Tp K mg cs tb) : FnW P w K mg base (sg K cs tb) 2 "_law_rows" (top 42) [] ["_law_tour_here"] m_law_rows := by
  obtain ⟨f, fd, F, hm, hk⟩ := T.d_law_rows
  refine ⟨f, fd, fn_okM (k := 1) (N := N_law_rows) (S := sg K cs tb) (body := b_law_rows) F.g (scpB_of (by kernel_rfl)) fun cdv A outer s pen G0 H E hcv hg hr => ?_, F, hm, hk⟩
  have B := @Bx.def P w K mg base N_law_rows "_law_rows" (defScope (top 42)) f cdv A outer s H E (sg K cs tb) pen G0 H 1 hg hr rfl hS
  exact (mss_one (ms_ret (me_lc (own := [("_law_trip", 1)]) B.calm (nodB_of (by kernel_rfl)) (mi_any (k := 1) B (itab T) (by kernel_rfl) (me_v (i := 0) (by kernel_rfl))) (blkB_of (by kernel_rfl)) (fun s H C cl fp => (mg_nm (i := 1) (by kernel_rfl) (by kernel_rfl) (by kernel_rfl) (by kernel_rfl))) (fun s H C cl fp => mts_nil) (fun s H C cl fp => (me_tup (ma_cons (me_f B.blk T.b5 (by rfl) (me_v (i := 1) (by kernel_rfl))) (ma_cons (me_f B.blk T.b6 (by rfl) (me_v (i := 1) (by kernel_rfl))) (ma_cons (me_f B.blk T.b11 (by rfl) (me_v (i := 1) (by kernel_rfl))) ma_nil))))))))
/-! ### Trip___invert__ -/
def NTrip___invert__ : List Str := ["self"]
def bTrip___invert__ : SX := (sRet (mNew 9 iTrip 3 0 [.int 1] [.p 0, .p 1, .p 2] (mCons (mUn (dFld [(9, 1)] []) (mVar 0)) (mCons (mUn (dFld [(9, 0)] []) (mVar 0)) (mCons (mUn (dFld [(9, 2)] []) (mVar 0)) mNil))) mNil))
def mTrip___invert__ : List D → M D := fnM 1 1 bTrip___invert__
theorem okTrip___invert__ (hS : ∃ o, base.get? sysModules = some o) (hTB : ∀ p ∈ tb, LamX.TabB base mg p.1 p.2) (T : Tp K mg cs tb) : MfW P w K mg base (sg K cs tb) 5 9 "__invert__" "Trip.__invert__" (inClass (top 23) 5) [] ["self"] mTrip___invert__ := by
  obtain ⟨f, fd, F, h1, h2, h3⟩ := T.wTrip___invert__
  have okTrip___init__ := okTrip___init__ (P := P) (w := w) (base := base) hS hTB T
  refine ⟨f, fd, fn_okM (k := 4) (N := NTrip___invert__) (S := sg K cs tb) (body := bTrip___invert__) F.g (scpB_of (by kernel_rfl)) fun cdv A outer s pen G0 H E hcv hg hr => ?_, F, h1, h2, h3⟩
  have B := @Bx.def P w K mg base NTrip___invert__ "Trip.__invert__" (defScope (inClass (top 23) 5)) f cdv A outer s H E (sg K cs tb) pen G0 H 4 hg hr rfl hS
  exact (mss_one (ms_ret (me_new (c := 9) B (k := 3) (ks := []) (l := [.p 0, .p 1, .p 2]) (InW.t (ks := []) (dvs := [.int 1]) (l := [.p 0, .p 1, .p 2]) okTrip___init__ (T.cm 9 _ (by kernel_rfl)) T.b4 (fun f fd F => bdW1 F (fun T kV doc pm an cdv ct us its ws h1 h2 h3 => match us, its, ws, h1, h2, h3 with | [_, _, _, _], [_], [], _, _, _ => ⟨_, rfl, rfl⟩)) (by kernel_rfl)) (by kernel_rfl) (by kernel_rfl) (by kernel_rfl) (pak_pos (ma_cons (me_f B T.b6 (by rfl) (me_v (i := 0) (by kernel_rfl))) (ma_cons (me_f B T.b5 (by rfl) (me_v (i := 0) (by kernel_rfl))) (ma_cons (me_f B T.b11 (by rfl) (me_v (i := 0) (by kernel_rfl))) ma_nil)))))))
/-! ### Tour___invert__ -/
def NTour___invert__ : List Str := ["self", "trips", "trip"]
def bTour___invert__ : SX := (sSeq (sSet 1 (mComp (iAny itL (mUn dRevA (mUn (dFld [(10, 0)] []) (mVar 0)))) (gN 2) mYes (mUn (dOwn1 [(9, mTrip___invert__)]) (mVar 2)) [2])) (sRet (mNewS 10 iTour (mStar (mVar 1)))))
def mTour___invert__ : List D → M D := fnM 1 3 bTour___invert__
theorem okTour___invert__ (hS : ∃ o, base.get? sysModules = some o) (hTB : ∀ p ∈ tb, LamX.TabB base mg p.1 p.2) (T : Tp K mg cs tb) : MfW P w K mg base (sg K cs tb) 6 10 "__invert__" "Tour.__invert__" (inClass (top 33) 18) [] ["self"] mTour___invert__ := by
  obtain ⟨f, fd, F, h1, h2, h3⟩ := T.wTour___invert__
  have okTour___init__ := okTour___init__ (P := P) (w := w) (base := base) hS hTB T
  have okTrip___invert__ := okTrip___invert__ (P := P) (w := w) (base := base) hS hTB T
  refine ⟨f, fd, fn_okM (k := 5) (N := NTour___invert__) (S := sg K cs tb) (body := bTour___invert__) F.g (scpB_of (by kernel_rfl)) fun cdv A outer s pen G0 H E hcv hg hr => ?_, F, h1, h2, h3⟩
  have B := @Bx.def P w K mg base NTour___invert__ "Tour.__invert__" (defScope (inClass (top 33) 18)) f cdv A outer s H E (sg K cs tb) pen G0 H 5 hg hr rfl hS
  exact (mss_cons (ms_setLc (own := [("trip", 2)]) (i := 1) B.calm (nodB_of (by kernel_rfl)) (ixB_of (by kernel_rfl)) (lclB_of (by kernel_rfl)) rfl (mi_any (k := 1) B (itab T) (by kernel_rfl) (me_revA B.hK (me_f B T.b10 (by rfl) (me_v (i := 0) (by kernel_rfl))))) (blkB_of (by kernel_rfl)) (fun s H C cl fp => (mg_nm (i := 2) (by kernel_rfl) (by kernel_rfl) (by kernel_rfl) (by kernel_rfl))) (fun s H C cl fp => mts_nil) (fun s H C cl fp => (me_inv (k := 5) B.blk (tab1 (OwnT.mono (k := 5) (MfW.o okTrip___invert__ (fun f fd F => bdW0 F (fun s kV doc pm an cdv ct us ws h1 h2 => match us, ws, h1, h2 with | [_], [], _, _ => .of_eq (by kernel_rfl)))) (by kernel_rfl))) (by kernel_rfl) (me_v (i := 2) (by kernel_rfl))))) (mss_one (ms_ret (me_newS (c := 10) B (k := 4) (InV.t okTour___init__ (T.cm 10 _ (by kernel_rfl)) T.b9) (by kernel_rfl) (by kernel_rfl) (by kernel_rfl) (pas_star (me_v (i := 1) (by kernel_rfl)) B.hK)))))
/-! ### _law_draw -/
def N_law_draw : List Str := ["_law_pen_here", "_law_many", "_law_digit", "_law_at", "_law_cell", "_law_great", "_law_mixed"]
def b_law_draw : SX := (sSeq (sIf (mTest (mBin (dCmpI fun i j => decide (j < i)) (mBin dIxP (mVar 0) (mC (.int 2))) (mC (.int 0)))) (sSeq (sSet 2 (mBin dMod (mCB dInt1 (mCons (mBin dIxP (mVar 0) (mC (.int 2))) mNil)) (mVar 1))) (sSeq (sPen 0 2 (mBin dDivW (mCB dInt1 (mCons (mBin dIxP (mVar 0) (mC (.int 2))) mNil)) (mVar 1))) (sRet (mVar 2)))) sNx) (sSeq (sSet 3 (mBin dIxP (mVar 0) (mC (.int 1)))) (sSeq (sPen 0 1 (mBin dAdd (mVar 3) (mC (.int 1)))) (sSeq (sSet 4 (mBin dAdd (mBin dMulT (mC (.int 46549)) (mVar 3)) (mC (.int 1217)))) (sSeq (sIf (mTest (mBin (dEq true) (mBin dIxP (mVar 0) (mC (.int 0))) (mLst mNil))) (sSet 4 (mBin dIx (mBin dIxP (mVar 0) (mC (.int 0))) (mBin dMod (mCB dInt1 (mCons (mVar 3) mNil)) (mCB dLen (mCons (mBin dIxP (mVar 0) (mC (.int 0))) mNil))))) sNx) (sSeq (sIf (mAndT (mTest (mBin (dCmpI fun i j => decide (i < j)) (mVar 3) (mCB dLen (mCons (mBin dIxP (mVar 0) (mC (.int 0))) mNil)))) (mTest (mBin (dCmpI fun i j => decide (j ≤ i)) (mCB dAbs (mCons (mVar 4) mNil)) (mBin dPow (mC (.int 10)) (mC (.int 18)))))) (sSeq (sSet 5 (mBin dAdd (mBin dMulT (mC (.int 2)) (mBin dSub (mCB dAbs (mCons (mVar 4) mNil)) (mBin dPow (mC (.int 10)) (mC (.int 18))))) (mCB dInt1 (mCons (mBin (dCmpI fun i j => decide (i < j)) (mVar 4) (mC (.int 0))) mNil)))) (sSeq (sPen 0 2 (mBin dDivW (mCB dInt1 (mCons (mVar 5) mNil)) (mVar 1))) (sRet (mBin dMod (mCB dInt1 (mCons (mVar 5) mNil)) (mVar 1))))) sNx) (sSeq (sSet 6 (mBin dMod (mCB dInt1 (mCons (mBin dPow (mBin dAdd (mBin dAdd (mBin dMod (mCB dInt1 (mCons (mVar 4) mNil)) (mC (.int 2147483549))) (mBin dMulT (mC (.int 58441)) (mVar 3))) (mC (.int 647))) (mC (.int 5))) mNil)) (mC (.int 2147483629)))) (sSeq (sSet 6 (mBin dMod (mCB dInt1 (mCons (mBin dPow (mBin dAdd (mBin dAdd (mBin dMulT (mVar 6) (mBin dAdd (mBin dMulT (mC (.int 2)) (mVar 3)) (mC (.int 173)))) (mBin dMulT (mBin dMulT (mC (.int 57173)) (mVar 3)) (mVar 3))) (mC (.int 89))) (mC (.int 3))) mNil)) (mC (.int 2147483587)))) (sRet (mBin dMod (mCB dInt1 (mCons (mBin dDivW (mVar 6) (mC (.int 32))) mNil)) (mVar 1)))))))))))
def m_law_draw : List D → M D := fnM 2 7 b_law_draw
theorem ok_law_draw (hS : ∃ o, base.get? sysModules = some o) (hTB : ∀ p ∈ tb, LamX.TabB base mg p.1 p.2) (T : Tp K mg cs tb) : FnW P w K mg base (sg K cs tb) 1 "_law_draw" (top 36) [] ["_law_pen_here", "_law_many"] m_law_draw := by
  obtain ⟨f, fd, F, hm, hk⟩ := T.d_law_draw
  refine ⟨f, fd, fn_okM (k := 0) (N := N_law_draw) (S := sg K cs tb) (body := b_law_draw) F.g (scpB_of (by kernel_rfl)) fun cdv A outer s pen G0 H E hcv hg hr => ?_, F, hm, hk⟩
  have B := @Bx.def P w K mg base N_law_draw "_law_draw" (defScope (top 36)) f cdv A outer s H E (sg K cs tb) pen G0 H 0 hg hr rfl hS
  exact (mss_cons (ms_if (mt_cm c_gt (me_ixP (me_v (i := 0) (by kernel_rfl)) me_int fun _ _ => rfl) me_int) (mss_cons (ms_st (i := 2) (by kernel_rfl) (by kernel_rfl) (me_mod (me_b b_int (T.bn _ (by kernel_rfl)) (by kernel_rfl) (by kernel_rfl) (ma_cons (me_ixP (me_v (i := 0) (by kernel_rfl)) me_int fun _ _ => rfl) ma_nil)) (me_v (i := 1) (by kernel_rfl)))) (mss_cons (ms_pen (i := 0) (ixB_of (by kernel_rfl)) (visB_of (by kernel_rfl)) (me_fdv (me_b b_int (T.bn _ (by kernel_rfl)) (by kernel_rfl) (by kernel_rfl) (ma_cons (me_ixP (me_v (i := 0) (by kernel_rfl)) me_int fun _ _ => rfl) ma_nil)) (me_v (i := 1) (by kernel_rfl)))) (mss_one (ms_ret (me_v (i := 2) (by kernel_rfl)))))) mss_nil) (mss_cons (ms_st (i := 3) (by kernel_rfl) (by kernel_rfl) (me_ixP (me_v (i := 0) (by kernel_rfl)) me_int fun _ _ => rfl)) (mss_cons (ms_pen (i := 0) (ixB_of (by kernel_rfl)) (visB_of (by kernel_rfl)) (me_add B (me_v (i := 3) (by kernel_rfl)) me_int)) (mss_cons (ms_st (i := 4) (by kernel_rfl) (by kernel_rfl) (me_add B (me_mul me_int (me_v (i := 3) (by kernel_rfl))) me_int)) (mss_cons (ms_if (mt_cm (c_ne B) (me_ixP (me_v (i := 0) (by kernel_rfl)) me_int fun _ _ => rfl) (me_lst ma_nil)) (mss_one (ms_st (i := 4) (by kernel_rfl) (by kernel_rfl) (me_ix B.hK (me_ixP (me_v (i := 0) (by kernel_rfl)) me_int fun _ _ => rfl) (me_mod (me_b b_int (T.bn _ (by kernel_rfl)) (by kernel_rfl) (by kernel_rfl) (ma_cons (me_v (i := 3) (by kernel_rfl)) ma_nil)) (me_b (b_len B) (T.bn _ (by kernel_rfl)) (by kernel_rfl) (by kernel_rfl) (ma_cons (me_ixP (me_v (i := 0) (by kernel_rfl)) me_int fun _ _ => rfl) ma_nil))) fun _ _ => rfl))) mss_nil) (mss_cons (ms_if (PW.pt (mw_and (mt_cm c_lt (me_v (i := 3) (by kernel_rfl)) (me_b (b_len B) (T.bn _ (by kernel_rfl)) (by kernel_rfl) (by kernel_rfl) (ma_cons (me_ixP (me_v (i := 0) (by kernel_rfl)) me_int fun _ _ => rfl) ma_nil))) (mw_and1 (mt_cm c_ge (me_b b_abs (T.bn _ (by kernel_rfl)) (by kernel_rfl) (by kernel_rfl) (ma_cons (me_v (i := 4) (by kernel_rfl)) ma_nil)) (me_pow me_int me_int))))) (mss_cons (ms_st (i := 5) (by kernel_rfl) (by kernel_rfl) (me_add B (me_mul me_int (me_sub (me_b b_abs (T.bn _ (by kernel_rfl)) (by kernel_rfl) (by kernel_rfl) (ma_cons (me_v (i := 4) (by kernel_rfl)) ma_nil)) (me_pow me_int me_int))) (me_b b_int (T.bn _ (by kernel_rfl)) (by kernel_rfl) (by kernel_rfl) (ma_cons (me_cm c_lt (me_v (i := 4) (by kernel_rfl)) me_int) ma_nil)))) (mss_cons (ms_pen (i := 0) (ixB_of (by kernel_rfl)) (visB_of (by kernel_rfl)) (me_fdv (me_b b_int (T.bn _ (by kernel_rfl)) (by kernel_rfl) (by kernel_rfl) (ma_cons (me_v (i := 5) (by kernel_rfl)) ma_nil)) (me_v (i := 1) (by kernel_rfl)))) (mss_one (ms_ret (me_mod (me_b b_int (T.bn _ (by kernel_rfl)) (by kernel_rfl) (by kernel_rfl) (ma_cons (me_v (i := 5) (by kernel_rfl)) ma_nil)) (me_v (i := 1) (by kernel_rfl))))))) mss_nil) (mss_cons (ms_st (i := 6) (by kernel_rfl) (by kernel_rfl) (me_mod (me_b b_int (T.bn _ (by kernel_rfl)) (by kernel_rfl) (by kernel_rfl) (ma_cons (me_pow (me_add B (me_add B (me_mod (me_b b_int (T.bn _ (by kernel_rfl)) (by kernel_rfl) (by kernel_rfl) (ma_cons (me_v (i := 4) (by kernel_rfl)) ma_nil)) me_int) (me_mul me_int (me_v (i := 3) (by kernel_rfl)))) me_int) me_int) ma_nil)) me_int)) (mss_cons (ms_st (i := 6) (by kernel_rfl) (by kernel_rfl) (me_mod (me_b b_int (T.bn _ (by kernel_rfl)) (by kernel_rfl) (by kernel_rfl) (ma_cons (me_pow (me_add B (me_add B (me_mul (me_v (i := 6) (by kernel_rfl)) (me_add B (me_mul me_int (me_v (i := 3) (by kernel_rfl))) me_int)) (me_mul (me_mul me_int (me_v (i := 3) (by kernel_rfl))) (me_v (i := 3) (by kernel_rfl)))) me_int) me_int) ma_nil)) me_int)) (mss_one (ms_ret (me_mod (me_b b_int (T.bn _ (by kernel_rfl)) (by kernel_rfl) (by kernel_rfl) (ma_cons (me_fdv (me_v (i := 6) (by kernel_rfl)) me_int) ma_nil)) (me_v (i := 1) (by kernel_rfl)))))))))))))
/-! ### _law_pick -/
def N_law_pick : List Str := ["_law_pen_here", "_law_some"]
def b_law_pick : SX := (sRet (mBin dIx (mVar 1) (mCallK m_law_draw 2 0 [] [.p 0, .p 1] (mCons (mVar 0) (mCons (mCB dLen (mCons (mVar 1) mNil)) mNil)) mNil)))
def m_law_pick : List D → M D := fnM 2 2 b_law_pick
theorem ok_law_pick (hS : ∃ o, base.get? sysModules = some o) (hTB : ∀ p ∈ tb, LamX.TabB base mg p.1 p.2) (T : Tp K mg cs tb) : FnW P w K mg base (sg K cs tb) 2 "_law_pick" (top 37) [] ["_law_pen_here", "_law_some"] m_law_pick := by
  obtain ⟨f, fd, F, hm, hk⟩ := T.d_law_pick
  have ok_law_draw := ok_law_draw (P := P) (w := w) (base := base) hS hTB T
  refine ⟨f, fd, fn_okM (k := 1) (N := N_law_pick) (S := sg K cs tb) (body := b_law_pick) F.g (scpB_of (by kernel_rfl)) fun cdv A outer s pen G0 H E hcv hg hr => ?_, F, hm, hk⟩
  have B := @Bx.def P w K mg base N_law_pick "_law_pick" (defScope (top 37)) f cdv A outer s H E (sg K cs tb) pen G0 H 1 hg hr rfl hS
  exact (mss_one (ms_ret (me_ix B.hK (me_v (i := 1) (by kernel_rfl)) (me_call B (k := 1) (ks := []) (l := [.p 0, .p 1]) (FnW.t (ks := []) (dvs := []) (l := [.p 0, .p 1]) ok_law_draw (fun f fd F => bdW0 F (fun s kV doc pm an cdv ct us ws h1 h2 => match us, ws, h1, h2 with | [_, _], [], _, _ => .of_eq (by kernel_rfl))) (by kernel_rfl)) (by kernel_rfl) (by kernel_rfl) (by kernel_rfl) (pak_pos (ma_cons (me_v (i := 0) (by kernel_rfl)) (ma_cons (me_b (b_len B) (T.bn _ (by kernel_rfl)) (by kernel_rfl) (by kernel_rfl) (ma_cons (me_v (i := 1) (by kernel_rfl)) ma_nil)) ma_nil)))) fun _ _ => rfl)))
/-! ### _law_plan -/
def N_law_plan : List Str := ["_law_pen_here", "_law_most", "_law_wide", "_law_pool", "_law_rows_here", "_law_found", "_law_turn", "_law_left", "_law_ring", "_law_step", "_law_at", "_law_price"]
def b_law_plan : SX := (sSeq (sSet 2 (mLst (mCons (mC (.str "tour")) (mCons (mC (.str "at")) (mCons (mC (.str "paid")) (mCons (mC (.str "a")) (mCons (mC (.str "ab")) (mCons (mC (.str "zzzzzzzz")) mNil)))))))) (sSeq (sP3EFF 3 4 5 (mCallK m_law_pick 2 0 [] [.p 0, .p 1] (mCons (mVar 0) (mCons (mLst (mCons (mLst (mCons (mC (.str "a")) (mCons (mC (.str "b")) mNil))) (mCons (mLst (mCons (mC (.str "a")) (mCons (mC (.str "b")) (mCons (mC (.str "c")) mNil)))) (mCons (mLst (mCons (mC (.str "b")) (mCons (mC (.str "c")) (mCons (mC (.str "d")) (mCons (mC (.str "a")) mNil))))) (mCons (mVar 2) mNil))))) mNil)) mNil) mNil mNil) (sSeq (sFor (iRng (mCons (mBin dAdd (mC (.int 1)) (mCallK m_law_draw 2 0 [] [.p 0, .p 1] (mCons (mVar 0) (mCons (mC (.int 5)) mNil)) mNil)) mNil)) (gN 6) (sSeq (sP2FF 7 8 (cpD (mVar 3)) mNil) (sSeq (sFor (iRng (mCons (mBin dAdd (mC (.int 2)) (mCallK m_law_draw 2 0 [] [.p 0, .p 1] (mCons (mVar 0) (mCons (mCB dMin (mCons (mC (.int 3)) (mCons (mBin dSub (mCB dLen (mCons (mVar 3) mNil)) (mC (.int 1))) mNil))) mNil)) mNil)) mNil)) (gN 9) (sAppPop 8 7 (mCallK m_law_draw 2 0 [] [.p 0, .p 1] (mCons (mVar 0) (mCons (mLenM 7) mNil)) mNil))) (sIf (mTest (mBin (dCmpI fun i j => decide (i ≤ j)) (mBin dAdd (mLenM 4) (mLenM 8)) (mVar 1))) (sFor (iRng (mCons (mLenM 8) mNil)) (gN 10) (sSeq (sSet 11 (mCallK m_law_pick 2 0 [] [.p 0, .p 1] (mCons (mVar 0) (mCons (mLst (mCons (mC (.int 0)) (mCons (mC (.int 1)) (mCons (mC (.int 5)) (mCons (mC (.int 99)) (mCons (mCallK m_law_draw 2 0 [] [.p 0, .p 1] (mCons (mVar 0) (mCons (mC (.int 100)) mNil)) mNil) mNil)))))) mNil)) mNil)) (sApp 4 (mTup (mCons (mIxM 8 (mVar 10)) (mCons (mIxM 8 (mBin dMod (mCB dInt1 (mCons (mBin dAdd (mVar 10) (mC (.int 1))) mNil)) (mLenM 8))) (mCons (mVar 11) mNil))))))) sNx)))) (sSeq (sFor (iRng (mCons (mLenM 4) mNil)) (gN 6) (sAppPop 5 4 (mCallK m_law_draw 2 0 [] [.p 0, .p 1] (mCons (mVar 0) (mCons (mLenM 4) mNil)) mNil))) (sFrz 5 (sRet (mVar 5)))))))
def m_law_plan : List D → M D := fnM 2 12 b_law_plan
theorem ok_law_plan (hS : ∃ o, base.get? sysModules = some o) (hTB : ∀ p ∈ tb, LamX.TabB base mg p.1 p.2) (T : Tp K mg cs tb) : FnW P w K mg base (sg K cs tb) 3 "_law_plan" (top 38) [] ["_law_pen_here", "_law_most"] m_law_plan := by
  obtain ⟨f, fd, F, hm, hk⟩ := T.d_law_plan
  have ok_law_draw := ok_law_draw (P := P) (w := w) (base := base) hS hTB T
  have ok_law_pick := ok_law_pick (P := P) (w := w) (base := base) hS hTB T
  refine ⟨f, fd, fn_okM (k := 2) (N := N_law_plan) (S := sg K cs tb) (body := b_law_plan) F.g (scpB_of (by kernel_rfl)) fun cdv A outer s pen G0 H E hcv hg hr => ?_, F, hm, hk⟩
  have B := @Bx.def P w K mg base N_law_plan "_law_plan" (defScope (top 38)) f cdv A outer s H E (sg K cs tb) pen G0 H 2 hg hr rfl hS
  exact (mss_cons (ms_st (i := 2) (by kernel_rfl) (by kernel_rfl) (me_lst (ma_cons me_str (ma_cons me_str (ma_cons me_str (ma_cons me_str (ma_cons me_str (ma_cons me_str ma_nil)))))))) (mss_cons (ms_p3EFF (i := 3) (j := 4) (k := 5) B.calm (nodB_of (by kernel_rfl)) (ixB_of (by kernel_rfl)) (ixB_of (by kernel_rfl)) (ixB_of (by kernel_rfl)) (by decide) (by decide) (by decide) (lclB_of (by kernel_rfl)) (lclB_of (by kernel_rfl)) (lclB_of (by kernel_rfl)) (me_call B (k := 2) (ks := []) (l := [.p 0, .p 1]) (FnW.t (ks := []) (dvs := []) (l := [.p 0, .p 1]) ok_law_pick (fun f fd F => bdW0 F (fun s kV doc pm an cdv ct us ws h1 h2 => match us, ws, h1, h2 with | [_, _], [], _, _ => .of_eq (by kernel_rfl))) (by kernel_rfl)) (by kernel_rfl) (by kernel_rfl) (by kernel_rfl) (pak_pos (ma_cons (me_v (i := 0) (by kernel_rfl)) (ma_cons (me_lst (ma_cons (me_lst (ma_cons me_str (ma_cons me_str ma_nil))) (ma_cons (me_lst (ma_cons me_str (ma_cons me_str (ma_cons me_str ma_nil)))) (ma_cons (me_lst (ma_cons me_str (ma_cons me_str (ma_cons me_str (ma_cons me_str ma_nil))))) (ma_cons (me_v (i := 2) (by kernel_rfl)) ma_nil))))) ma_nil)))) (tf_lst ma_nil) (tf_lst ma_nil) rfl) (mss_cons (ms_for (js := [6]) (passes_of rfl) B.calm (mi_rng (gl_of (by kernel_rfl)) (T.bn _ (by kernel_rfl)) (ma_cons (me_add B me_int (me_call B (k := 1) (ks := []) (l := [.p 0, .p 1]) (FnW.t (ks := []) (dvs := []) (l := [.p 0, .p 1]) ok_law_draw (fun f fd F => bdW0 F (fun s kV doc pm an cdv ct us ws h1 h2 => match us, ws, h1, h2 with | [_, _], [], _, _ => .of_eq (by kernel_rfl))) (by kernel_rfl)) (by kernel_rfl) (by kernel_rfl) (by kernel_rfl) (pak_pos (ma_cons (me_v (i := 0) (by kernel_rfl)) (ma_cons me_int ma_nil))))) ma_nil)) (mg_nm (i := 6) (by kernel_rfl) (by kernel_rfl) (by kernel_rfl) (by kernel_rfl)) (mss_cons (ms_p2FF (i := 7) (j := 8) B.calm (nodB_of (by kernel_rfl)) (ixB_of (by kernel_rfl)) (ixB_of (by kernel_rfl)) (by decide) (lclB_of (by kernel_rfl)) (lclB_of (by kernel_rfl)) (tf_cp B (gl_of (by kernel_rfl)) (T.bn _ (by kernel_rfl)) (me_v (i := 3) (by kernel_rfl))) (tf_lst ma_nil) rfl) (mss_cons (ms_for (js := [9]) (passes_of rfl) B.calm (mi_rng (gl_of (by kernel_rfl)) (T.bn _ (by kernel_rfl)) (ma_cons (me_add B me_int (me_call B (k := 1) (ks := []) (l := [.p 0, .p 1]) (FnW.t (ks := []) (dvs := []) (l := [.p 0, .p 1]) ok_law_draw (fun f fd F => bdW0 F (fun s kV doc pm an cdv ct us ws h1 h2 => match us, ws, h1, h2 with | [_, _], [], _, _ => .of_eq (by kernel_rfl))) (by kernel_rfl)) (by kernel_rfl) (by kernel_rfl) (by kernel_rfl) (pak_pos (ma_cons (me_v (i := 0) (by kernel_rfl)) (ma_cons (me_b (b_min B) (T.bn _ (by kernel_rfl)) (by kernel_rfl) (by kernel_rfl) (ma_cons me_int (ma_cons (me_sub (me_b (b_len B) (T.bn _ (by kernel_rfl)) (by kernel_rfl) (by kernel_rfl) (ma_cons (me_v (i := 3) (by kernel_rfl)) ma_nil)) me_int) ma_nil))) ma_nil))))) ma_nil)) (mg_nm (i := 9) (by kernel_rfl) (by kernel_rfl) (by kernel_rfl) (by kernel_rfl)) (mss_one (ms_appPop (i := 8) (j := 7) (ixB_of (by kernel_rfl)) (visB_of (by kernel_rfl)) (ixB_of (by kernel_rfl)) (visB_of (by kernel_rfl)) (by decide) B.hK (me_call B (k := 1) (ks := []) (l := [.p 0, .p 1]) (FnW.t (ks := []) (dvs := []) (l := [.p 0, .p 1]) ok_law_draw (fun f fd F => bdW0 F (fun s kV doc pm an cdv ct us ws h1 h2 => match us, ws, h1, h2 with | [_, _], [], _, _ => .of_eq (by kernel_rfl))) (by kernel_rfl)) (by kernel_rfl) (by kernel_rfl) (by kernel_rfl) (pak_pos (ma_cons (me_v (i := 0) (by kernel_rfl)) (ma_cons (me_lenM (i := 7) B (ixB_of (by kernel_rfl)) (visB_of (by kernel_rfl)) (gl_of (by kernel_rfl)) (T.bn _ (by kernel_rfl))) ma_nil))))))) (mss_one (ms_if (mt_cm c_le (me_add B (me_lenM (i := 4) B (ixB_of (by kernel_rfl)) (visB_of (by kernel_rfl)) (gl_of (by kernel_rfl)) (T.bn _ (by kernel_rfl))) (me_lenM (i := 8) B (ixB_of (by kernel_rfl)) (visB_of (by kernel_rfl)) (gl_of (by kernel_rfl)) (T.bn _ (by kernel_rfl)))) (me_v (i := 1) (by kernel_rfl))) (mss_one (ms_for (js := [10]) (passes_of rfl) B.calm (mi_rng (gl_of (by kernel_rfl)) (T.bn _ (by kernel_rfl)) (ma_cons (me_lenM (i := 8) B (ixB_of (by kernel_rfl)) (visB_of (by kernel_rfl)) (gl_of (by kernel_rfl)) (T.bn _ (by kernel_rfl))) ma_nil)) (mg_nm (i := 10) (by kernel_rfl) (by kernel_rfl) (by kernel_rfl) (by kernel_rfl)) (mss_cons (ms_st (i := 11) (by kernel_rfl) (by kernel_rfl) (me_call B (k := 2) (ks := []) (l := [.p 0, .p 1]) (FnW.t (ks := []) (dvs := []) (l := [.p 0, .p 1]) ok_law_pick (fun f fd F => bdW0 F (fun s kV doc pm an cdv ct us ws h1 h2 => match us, ws, h1, h2 with | [_, _], [], _, _ => .of_eq (by kernel_rfl))) (by kernel_rfl)) (by kernel_rfl) (by kernel_rfl) (by kernel_rfl) (pak_pos (ma_cons (me_v (i := 0) (by kernel_rfl)) (ma_cons (me_lst (ma_cons me_int (ma_cons me_int (ma_cons me_int (ma_cons me_int (ma_cons (me_call B (k := 1) (ks := []) (l := [.p 0, .p 1]) (FnW.t (ks := []) (dvs := []) (l := [.p 0, .p 1]) ok_law_draw (fun f fd F => bdW0 F (fun s kV doc pm an cdv ct us ws h1 h2 => match us, ws, h1, h2 with | [_, _], [], _, _ => .of_eq (by kernel_rfl))) (by kernel_rfl)) (by kernel_rfl) (by kernel_rfl) (by kernel_rfl) (pak_pos (ma_cons (me_v (i := 0) (by kernel_rfl)) (ma_cons me_int ma_nil)))) ma_nil)))))) ma_nil))))) (mss_one (ms_app (i := 4) (ixB_of (by kernel_rfl)) (visB_of (by kernel_rfl)) B.hK (me_tup (ma_cons (me_ixM (i := 8) B.hK (ixB_of (by kernel_rfl)) (visB_of (by kernel_rfl)) (me_v (i := 10) (by kernel_rfl)) fun _ _ => rfl) (ma_cons (me_ixM (i := 8) B.hK (ixB_of (by kernel_rfl)) (visB_of (by kernel_rfl)) (me_mod (me_b b_int (T.bn _ (by kernel_rfl)) (by kernel_rfl) (by kernel_rfl) (ma_cons (me_add B (me_v (i := 10) (by kernel_rfl)) me_int) ma_nil)) (me_lenM (i := 8) B (ixB_of (by kernel_rfl)) (visB_of (by kernel_rfl)) (gl_of (by kernel_rfl)) (T.bn _ (by kernel_rfl)))) fun _ _ => rfl) (ma_cons (me_v (i := 11) (by kernel_rfl)) ma_nil))))))))) mss_nil))))) (mss_cons (ms_for (js := [6]) (passes_of rfl) B.calm (mi_rng (gl_of (by kernel_rfl)) (T.bn _ (by kernel_rfl)) (ma_cons (me_lenM (i := 4) B (ixB_of (by kernel_rfl)) (visB_of (by kernel_rfl)) (gl_of (by kernel_rfl)) (T.bn _ (by kernel_rfl))) ma_nil)) (mg_nm (i := 6) (by kernel_rfl) (by kernel_rfl) (by kernel_rfl) (by kernel_rfl)) (mss_one (ms_appPop (i := 5) (j := 4) (ixB_of (by kernel_rfl)) (visB_of (by kernel_rfl)) (ixB_of (by kernel_rfl)) (visB_of (by kernel_rfl)) (by decide) B.hK (me_call B (k := 1) (ks := []) (l := [.p 0, .p 1]) (FnW.t (ks := []) (dvs := []) (l := [.p 0, .p 1]) ok_law_draw (fun f fd F => bdW0 F (fun s kV doc pm an cdv ct us ws h1 h2 => match us, ws, h1, h2 with | [_, _], [], _, _ => .of_eq (by kernel_rfl))) (by kernel_rfl)) (by kernel_rfl) (by kernel_rfl) (by kernel_rfl) (pak_pos (ma_cons (me_v (i := 0) (by kernel_rfl)) (ma_cons (me_lenM (i := 4) B (ixB_of (by kernel_rfl)) (visB_of (by kernel_rfl)) (gl_of (by kernel_rfl)) (T.bn _ (by kernel_rfl))) ma_nil))))))) (mss_frz (i := 5) (mss_one (ms_ret (me_v (i := 5) (by kernel_rfl)))))))))
/-! ### _law_heard -/
def N_law_heard : List Str := ["_law_ask", "_law_caught", "_law_found", "error"]
def b_law_heard (f : Nat) (act : M D) : SX := (sSeq (sUnp (gT (gs1 (gN 1) (gs1 (gN 2) gs0))) (mTup (mCons (mC .non) (mCons (mC .non) mNil)))) (sSeq (sTry isT 0 3 1 (sSet 2 (mAct f act))) (sDrop 0 (sSeq (sIf (mTest (mBin (dIsN false) (mVar 1) (mC .non))) (sRet (mLst (mCons (mVar 2) mNil))) sNx) (sSeq (sIf (mTru (mCB (dIsi isT) (mCons (mVar 1) (mCons (mC (.cls 5)) mNil)))) (sRet (mTup (mCons (mUn (dFld [] [(5, 0)]) (mVar 1)) (mCons (mUn (dFld [] [(5, 1)]) (mVar 1)) mNil)))) sNx) (sRet (mTup (mCons (mC (.str "odd")) mNil))))))))
def m_law_heard (act : M D) : M D := fun p => outOf (b_law_heard 0 act (dsOf 4 [.clo 0]) p)
theorem u_law_heard (f : Nat) (act : M D) (p : Pn) : outOf (b_law_heard f act (dsOf 4 [.clo f]) p) = m_law_heard act p := (heard_u (i := 2) (j := 0) (fun _ _ => rfl) (Kd := fun d => .inl (List.set _ 1 (some (.d d)))) (fun _ _ _ => rfl) f act p).trans (heard_u (i := 2) (j := 0) (fun _ _ => rfl) (Kd := fun d => .inl (List.set _ 1 (some (.d d)))) (fun _ _ _ => rfl) 0 act p).symm
theorem ok_law_heard (hS : ∃ o, base.get? sysModules = some o) (hTB : ∀ p ∈ tb, LamX.TabB base mg p.1 p.2) (T : Tp K mg cs tb) : HrdT P w K mg base (sg K cs tb) 0 "_law_heard" m_law_heard := by
  obtain ⟨f, fd, F, hm, hk⟩ := T.d_law_heard
  have F2 := F
  obtain ⟨oc, od, dV, kV, doc, pm, an, cdv, ct, osl, e1, e2, e3, e4⟩ := F2
  refine ⟨f, fd, "_law_ask", (top 43), N_law_heard, oc, od, dV, kV, doc, pm, an, cdv, ct, osl, b_law_heard, e1, e2, e3, hm, hk, bdW0 F (fun s kV doc pm an cdv ct us ws h1 h2 => match us, ws, h1, h2 with | [_], [], _, _ => .of_eq (by kernel_rfl)), scpB_of (by kernel_rfl), rfl, visB_of (by kernel_rfl), (by kernel_rfl), u_law_heard, fun A outer s pen G0 H E f0 act hg hr Ac => ?_⟩
  have B := @Bx.def P w K mg base N_law_heard "_law_heard" (defScope (top 43)) f cdv A outer s H E (sg K cs tb) pen G0 H 0 hg hr rfl hS
  exact (mss_cons (ms_unp (js := [1, 2]) (me_tup (ma_cons me_non (ma_cons me_non ma_nil))) (mg_tup B.hK B.calm (mgs_cons (mg_nm (i := 1) (by kernel_rfl) (by kernel_rfl) (by kernel_rfl) (by kernel_rfl)) (mgs_cons (mg_nm (i := 2) (by kernel_rfl) (by kernel_rfl) (by kernel_rfl) (by kernel_rfl)) mgs_nil)) (n := 2) rfl (gl1 (gl1 gl0)))) (mss_cons (ms_try (i := 3) (j := 1) (ci := 0) rfl rfl rfl (by kernel_rfl) (by kernel_rfl) (by kernel_rfl) (by kernel_rfl) (by kernel_rfl) (by kernel_rfl) (by kernel_rfl) (by kernel_rfl) (T.cm 0 _ (by kernel_rfl)) B (exm_of T.b16) (fun _ => rfl) (fun _ => rfl) (fun W pn xe tk po => (mss_one (ms_actS (i := 2) (Ac W pn xe _ _ tk) (by kernel_rfl) (by kernel_rfl))))) (mss_drop (i := 0) (mss_cons (ms_if (mt_cm c_is (me_v (i := 1) (by kernel_rfl)) me_non) (mss_one (ms_ret (me_lst (ma_cons (me_v (i := 2) (by kernel_rfl)) ma_nil)))) mss_nil) (mss_cons (ms_if (mt_tru B.hK (me_b (b_isi B T.isf) (T.bn _ (by kernel_rfl)) (by kernel_rfl) (by kernel_rfl) (ma_cons (me_v (i := 1) (by kernel_rfl)) (ma_cons (me_cls (c := 5) (T.cm 5 _ (by kernel_rfl)) (by kernel_rfl) (by kernel_rfl)) ma_nil)))) (mss_one (ms_ret (me_tup (ma_cons (me_f B (by rfl) T.b17 (me_v (i := 1) (by kernel_rfl))) (ma_cons (me_f B (by rfl) T.b18 (me_v (i := 1) (by kernel_rfl))) ma_nil))))) mss_nil) (mss_one (ms_ret (me_tup (ma_cons me_str ma_nil)))))))))
/-! ### _law_right -/
def N_law_right : List Str := ["_law_pen_here", "_law_rows_here", "_law_tour_here", "_law_text", "_law_told", "_law_back", "_law_other", "_law_there", "_law_odd", "_law_start", "_law_goal", "_law_price"]
def b_law_right : SX := (sSeq (sPar2 2 3 (mCons (mCallK m_law_tour 1 0 [] [.p 0] (mCons (mVar 1) mNil) mNil) (mCons (mCallK m_law_words 1 0 [] [.p 0] (mCons (mVar 1) mNil) mNil) mNil))) (sSeq (sIf (mOrT (mTest (mBin (dEq true) (mCB (dStrO [(10, mTour___str__), (9, mTrip___str__)]) (mCons (mVar 2) mNil)) (mVar 3))) (mOrT (mTest (mBin (dOwnC ([(10, mTour___eq__), (9, mTrip___eq__)].map fun q => (q.1, notM q.2)) [10, 9] (dEq true)) (mCM 10 mTour_read 1 0 [] [.p 0] (mCons (mVar 3) mNil) mNil) (mVar 2))) (mTest (mBin (dOwnC ([(10, mTour___eq__), (9, mTrip___eq__)].map fun q => (q.1, notM q.2)) [10, 9] (dEq true)) (mCM 10 mTour_read 0 1 [] [.k 0] mNil (mCons (mVar 3) mNil)) (mVar 2))))) (sRet (mC (.bl false))) sNx) (sSeq (sPar2 4 5 (mCons (mCM 10 mTour_read 1 0 [] [.p 0] (mCons (mCB (dStrO [(10, mTour___str__), (9, mTrip___str__)]) (mCons (mBin (dBop [(10, mTour___rshift__)] [10, 9]) (mVar 2) (mC (.int 1))) mNil)) mNil) mNil) (mCons (mComp (iAny itL (mUn dRevA (mVar 1))) (gT (gs1 (gN 9) (gs1 (gN 10) (gs1 (gN 11) gs0)))) mYes (mTup (mCons (mVar 10) (mCons (mVar 9) (mCons (mVar 11) mNil)))) [9, 10, 11]) mNil))) (sSeq (sIf (mOrT (mTest (mBin (dEq true) (mCallK m_law_rows 1 0 [] [.p 0] (mCons (mVar 4) mNil) mNil) (mBin dAdd (mSlA (mVar 1) (some (mC (.int 1))) none) (mSlA (mVar 1) none (some (mC (.int 1))))))) (mTest (mBin (dEq true) (mCB (dStrO [(10, mTour___str__), (9, mTrip___str__)]) (mCons (mUn (dOwn1 [(10, mTour___invert__)]) (mVar 2)) mNil)) (mCallK m_law_words 1 0 [] [.p 0] (mCons (mVar 5) mNil) mNil)))) (sRet (mC (.bl false))) sNx) (sSeq (sSet 6 (mCallK m_law_plan 2 0 [] [.p 0, .p 1] (mCons (mVar 0) (mCons (mC (.int 6)) mNil)) mNil)) (sSeq (sSet 7 (mCallK m_law_tour 1 0 [] [.p 0] (mCons (mVar 6) mNil) mNil)) (sSeq (sIf (mOrT (mTest (mBin (dEq true) (mBin (dEq false) (mCB (dStrO [(10, mTour___str__), (9, mTrip___str__)]) (mCons (mVar 7) mNil)) (mVar 3)) (mBin (dOwnC [(10, mTour___eq__), (9, mTrip___eq__)] [10, 9] (dEq false)) (mVar 7) (mVar 2)))) (mTest (mBin (dEq true) (mBin (dEq false) (mCB (dStrO [(10, mTour___str__), (9, mTrip___str__)]) (mCons (mVar 7) mNil)) (mVar 3)) (mBin (dOwnC [(10, mTour___eq__), (9, mTrip___eq__)] [10, 9] (dEq false)) (mVar 6) (mVar 1))))) (sRet (mC (.bl false))) sNx) (sSeq (sSet 8 (mCallK m_law_pick 2 0 [] [.p 0, .p 1] (mCons (mVar 0) (mCons (mLst (mCons (mC .non) (mCons (mC (.int 0)) (mCons (mC (.bl true)) (mCons (mLst (mCons (mVar 3) mNil)) (mCons (mTup (mCons (mVar 3) mNil)) (mCons (mC (.dct [])) (mCons (mVar 2) (mCons (mBin dPow (mC (.int 10)) (mC (.int 30))) mNil))))))))) mNil)) mNil)) (sRet (mBin (dEq false) (mLam m_law_heard (mCM 10 mTour_read 1 0 [] [.p 0] (mCons (mVar 8) mNil) mNil)) (mTup (mCons (mC (.int 0)) (mCons (mC (.int 0)) mNil)))))))))))))
def m_law_right : List D → M D := fnM 2 12 b_law_right
theorem ok_law_right (hS : ∃ o, base.get? sysModules = some o) (hTB : ∀ p ∈ tb, LamX.TabB base mg p.1 p.2) (T : Tp K mg cs tb) : FnW P w K mg base (sg K cs tb) 9 "_law_right" (top 44) [] ["_law_pen_here", "_law_rows_here"] m_law_right := by
  obtain ⟨f, fd, F, hm, hk, hcq⟩ := T.d_law_right
  have okTour_read := okTour_read (P := P) (w := w) (base := base) hS hTB T
  have ok_law_words := ok_law_words (P := P) (w := w) (base := base) hS hTB T
  have ok_law_tour := ok_law_tour (P := P) (w := w) (base := base) hS hTB T
  have okTrip___str__ := okTrip___str__ (P := P) (w := w) (base := base) hS hTB T
  have okTour___str__ := okTour___str__ (P := P) (w := w) (base := base) hS hTB T
  have okTrip___eq__ := okTrip___eq__ (P := P) (w := w) (base := base) hS hTB T
  have okTour___eq__ := okTour___eq__ (P := P) (w := w) (base := base) hS hTB T
  have okTour___rshift__ := okTour___rshift__ (P := P) (w := w) (base := base) hS hTB T
  have ok_law_rows := ok_law_rows (P := P) (w := w) (base := base) hS hTB T
  have okTour___invert__ := okTour___invert__ (P := P) (w := w) (base := base) hS hTB T
  have ok_law_pick := ok_law_pick (P := P) (w := w) (base := base) hS hTB T
  have ok_law_plan := ok_law_plan (P := P) (w := w) (base := base) hS hTB T
  have ok_law_heard := ok_law_heard (P := P) (w := w) (base := base) hS hTB T
  refine ⟨f, fd, fn_okM (k := 8) (N := N_law_right) (S := sg K cs tb) (body := b_law_right) F.g (scpB_of (by kernel_rfl)) fun cdv A outer s pen G0 H E hcv hg hr => ?_, F, hm, hk⟩
  have B := @Bx.def P w K mg base N_law_right "_law_right" (defScope (top 44)) f cdv A outer s H E (sg K cs tb) pen G0 H 8 hg hr rfl hS
  have hcd := hcv.symm.trans hcq
  have lt := lamT_of (i := 0) (q := (("_law_right" : Str) ++ ".<locals>.") ++ "<lambda>") T.tbs (by kernel_rfl)
  exact (mss_cons (ms_par2 (i := 2) (j := 3) B.calm (nodB_of (by kernel_rfl)) (ixB_of (by kernel_rfl)) (ixB_of (by kernel_rfl)) (by decide) (lclB_of (by kernel_rfl)) (lclB_of (by kernel_rfl)) (ma_cons (me_call B (k := 7) (ks := []) (l := [.p 0]) (FnW.t (ks := []) (dvs := []) (l := [.p 0]) ok_law_tour (fun f fd F => bdW0 F (fun s kV doc pm an cdv ct us ws h1 h2 => match us, ws, h1, h2 with | [_], [], _, _ => .of_eq (by kernel_rfl))) (by kernel_rfl)) (by kernel_rfl) (by kernel_rfl) (by kernel_rfl) (pak_pos (ma_cons (me_v (i := 1) (by kernel_rfl)) ma_nil))) (ma_cons (me_call B (k := 2) (ks := []) (l := [.p 0]) (FnW.t (ks := []) (dvs := []) (l := [.p 0]) ok_law_words (fun f fd F => bdW0 F (fun s kV doc pm an cdv ct us ws h1 h2 => match us, ws, h1, h2 with | [_], [], _, _ => .of_eq (by kernel_rfl))) (by kernel_rfl)) (by kernel_rfl) (by kernel_rfl) (by kernel_rfl) (pak_pos (ma_cons (me_v (i := 1) (by kernel_rfl)) ma_nil))) ma_nil)) rfl) (mss_cons (ms_if (PW.pt (mw_or (mt_cm (c_ne B) (me_b (b_strO (k := 4) B (tabC (OwnT.mono (k := 4) (MfW.o okTour___str__ (fun f fd F => bdW0 F (fun s kV doc pm an cdv ct us ws h1 h2 => match us, ws, h1, h2 with | [_], [], _, _ => .of_eq (by kernel_rfl)))) (by kernel_rfl)) (tab1 (OwnT.mono (k := 4) (MfW.o okTrip___str__ (fun f fd F => bdW0 F (fun s kV doc pm an cdv ct us ws h1 h2 => match us, ws, h1, h2 with | [_], [], _, _ => .of_eq (by kernel_rfl)))) (by kernel_rfl)))) (by kernel_rfl)) (T.bn _ (by kernel_rfl)) (by kernel_rfl) (by kernel_rfl) (ma_cons (me_v (i := 2) (by kernel_rfl)) ma_nil)) (me_v (i := 3) (by kernel_rfl))) (mw_or (mt_cm (c_neO (k := 3) (cs := [10, 9]) B (tabC (OwnT.mono (k := 3) (MfW.o okTour___eq__ (fun f fd F => bdW0 F (fun s kV doc pm an cdv ct us ws h1 h2 => match us, ws, h1, h2 with | [_, _], [], _, _ => .of_eq (by kernel_rfl)))) (by kernel_rfl)) (tab1 (OwnT.mono (k := 3) (MfW.o okTrip___eq__ (fun f fd F => bdW0 F (fun s kV doc pm an cdv ct us ws h1 h2 => match us, ws, h1, h2 with | [_, _], [], _, _ => .of_eq (by kernel_rfl)))) (by kernel_rfl)))) (by kernel_rfl) rfl T.b13 T.b14) (me_clm (c := 10) B (k := 6) (ks := []) (l := [.p 0]) (CfW.t (ks := []) (dvs := []) (l := [.p 0]) okTour_read (fun f fd F => bdW0 F (fun s kV doc pm an cdv ct us ws h1 h2 => match us, ws, h1, h2 with | [_, _], [], _, _ => .of_eq (by kernel_rfl))) (by kernel_rfl)) (by kernel_rfl) (T.cm 10 _ (by kernel_rfl)) (by kernel_rfl) (by kernel_rfl) (pam_pos (ma_cons (me_v (i := 3) (by kernel_rfl)) ma_nil))) (me_v (i := 2) (by kernel_rfl))) (mw_or1 (mt_cm (c_neO (k := 3) (cs := [10, 9]) B (tabC (OwnT.mono (k := 3) (MfW.o okTour___eq__ (fun f fd F => bdW0 F (fun s kV doc pm an cdv ct us ws h1 h2 => match us, ws, h1, h2 with | [_, _], [], _, _ => .of_eq (by kernel_rfl)))) (by kernel_rfl)) (tab1 (OwnT.mono (k := 3) (MfW.o okTrip___eq__ (fun f fd F => bdW0 F (fun s kV doc pm an cdv ct us ws h1 h2 => match us, ws, h1, h2 with | [_, _], [], _, _ => .of_eq (by kernel_rfl)))) (by kernel_rfl)))) (by kernel_rfl) rfl T.b13 T.b14) (me_clm (c := 10) B (k := 6) (ks := ["text"]) (l := [.k 0]) (CfW.t (ks := ["text"]) (dvs := []) (l := [.k 0]) okTour_read (fun f fd F => bdW0 F (fun s kV doc pm an cdv ct us ws h1 h2 => match us, ws, h1, h2 with | [_], [_], _, _ => .of_eq (by kernel_rfl))) (by kernel_rfl)) (by kernel_rfl) (T.cm 10 _ (by kernel_rfl)) (by kernel_rfl) (by kernel_rfl) (pam_kw (mk_cons (me_v (i := 3) (by kernel_rfl)) mk_nil))) (me_v (i := 2) (by kernel_rfl))))))) (mss_one (ms_ret me_bl)) mss_nil) (mss_cons (ms_par2 (i := 4) (j := 5) B.calm (nodB_of (by kernel_rfl)) (ixB_of (by kernel_rfl)) (ixB_of (by kernel_rfl)) (by decide) (lclB_of (by kernel_rfl)) (lclB_of (by kernel_rfl)) (ma_cons (me_clm (c := 10) B (k := 6) (ks := []) (l := [.p 0]) (CfW.t (ks := []) (dvs := []) (l := [.p 0]) okTour_read (fun f fd F => bdW0 F (fun s kV doc pm an cdv ct us ws h1 h2 => match us, ws, h1, h2 with | [_, _], [], _, _ => .of_eq (by kernel_rfl))) (by kernel_rfl)) (by kernel_rfl) (T.cm 10 _ (by kernel_rfl)) (by kernel_rfl) (by kernel_rfl) (pam_pos (ma_cons (me_b (b_strO (k := 4) B (tabC (OwnT.mono (k := 4) (MfW.o okTour___str__ (fun f fd F => bdW0 F (fun s kV doc pm an cdv ct us ws h1 h2 => match us, ws, h1, h2 with | [_], [], _, _ => .of_eq (by kernel_rfl)))) (by kernel_rfl)) (tab1 (OwnT.mono (k := 4) (MfW.o okTrip___str__ (fun f fd F => bdW0 F (fun s kV doc pm an cdv ct us ws h1 h2 => match us, ws, h1, h2 with | [_], [], _, _ => .of_eq (by kernel_rfl)))) (by kernel_rfl)))) (by kernel_rfl)) (T.bn _ (by kernel_rfl)) (by kernel_rfl) (by kernel_rfl) (ma_cons (me_bopN (k := 6) (cs := [10]) (os := [10, 9]) (by kernel_rfl) B (tab1 (OwnT.mono (k := 6) (MfW.o okTour___rshift__ (fun f fd F => bdW0 F (fun s kV doc pm an cdv ct us ws h1 h2 => match us, ws, h1, h2 with | [_, _], [], _, _ => .of_eq (by kernel_rfl)))) (by kernel_rfl))) (by kernel_rfl) rfl T.b15 (me_v (i := 2) (by kernel_rfl)) me_int) ma_nil)) ma_nil))) (ma_cons (me_lc (own := [("_law_start", 9), ("_law_goal", 10), ("_law_price", 11)]) B.calm (nodB_of (by kernel_rfl)) (mi_any (k := 1) B (itab T) (by kernel_rfl) (me_revA B.hK (me_v (i := 1) (by kernel_rfl)))) (blkB_of (by kernel_rfl)) (fun s H C cl fp => (mg_tup B.blk.hK B.blk.calm (mgs_cons (mg_nm (i := 9) (by kernel_rfl) (by kernel_rfl) (by kernel_rfl) (by kernel_rfl)) (mgs_cons (mg_nm (i := 10) (by kernel_rfl) (by kernel_rfl) (by kernel_rfl) (by kernel_rfl)) (mgs_cons (mg_nm (i := 11) (by kernel_rfl) (by kernel_rfl) (by kernel_rfl) (by kernel_rfl)) mgs_nil))) (n := 3) rfl (gl1 (gl1 (gl1 gl0))))) (fun s H C cl fp => mts_nil) (fun s H C cl fp => (me_tup (ma_cons (me_v (i := 10) (by kernel_rfl)) (ma_cons (me_v (i := 9) (by kernel_rfl)) (ma_cons (me_v (i := 11) (by kernel_rfl)) ma_nil)))))) ma_nil)) rfl) (mss_cons (ms_if (PW.pt (mw_or (mt_cm (c_ne B) (me_call B (k := 2) (ks := []) (l := [.p 0]) (FnW.t (ks := []) (dvs := []) (l := [.p 0]) ok_law_rows (fun f fd F => bdW0 F (fun s kV doc pm an cdv ct us ws h1 h2 => match us, ws, h1, h2 with | [_], [], _, _ => .of_eq (by kernel_rfl))) (by kernel_rfl)) (by kernel_rfl) (by kernel_rfl) (by kernel_rfl) (pak_pos (ma_cons (me_v (i := 4) (by kernel_rfl)) ma_nil))) (me_add B (me_slA B.hK (me_v (i := 1) (by kernel_rfl)) (mo_some me_int) mo_none) (me_slA B.hK (me_v (i := 1) (by kernel_rfl)) mo_none (mo_some me_int)))) (mw_or1 (mt_cm (c_ne B) (me_b (b_strO (k := 4) B (tabC (OwnT.mono (k := 4) (MfW.o okTour___str__ (fun f fd F => bdW0 F (fun s kV doc pm an cdv ct us ws h1 h2 => match us, ws, h1, h2 with | [_], [], _, _ => .of_eq (by kernel_rfl)))) (by kernel_rfl)) (tab1 (OwnT.mono (k := 4) (MfW.o okTrip___str__ (fun f fd F => bdW0 F (fun s kV doc pm an cdv ct us ws h1 h2 => match us, ws, h1, h2 with | [_], [], _, _ => .of_eq (by kernel_rfl)))) (by kernel_rfl)))) (by kernel_rfl)) (T.bn _ (by kernel_rfl)) (by kernel_rfl) (by kernel_rfl) (ma_cons (me_inv (k := 6) B (tab1 (OwnT.mono (k := 6) (MfW.o okTour___invert__ (fun f fd F => bdW0 F (fun s kV doc pm an cdv ct us ws h1 h2 => match us, ws, h1, h2 with | [_], [], _, _ => .of_eq (by kernel_rfl)))) (by kernel_rfl))) (by kernel_rfl) (me_v (i := 2) (by kernel_rfl))) ma_nil)) (me_call B (k := 2) (ks := []) (l := [.p 0]) (FnW.t (ks := []) (dvs := []) (l := [.p 0]) ok_law_words (fun f fd F => bdW0 F (fun s kV doc pm an cdv ct us ws h1 h2 => match us, ws, h1, h2 with | [_], [], _, _ => .of_eq (by kernel_rfl))) (by kernel_rfl)) (by kernel_rfl) (by kernel_rfl) (by kernel_rfl) (pak_pos (ma_cons (me_v (i := 5) (by kernel_rfl)) ma_nil))))))) (mss_one (ms_ret me_bl)) mss_nil) (mss_cons (ms_st (i := 6) (by kernel_rfl) (by kernel_rfl) (me_call B (k := 3) (ks := []) (l := [.p 0, .p 1]) (FnW.t (ks := []) (dvs := []) (l := [.p 0, .p 1]) ok_law_plan (fun f fd F => bdW0 F (fun s kV doc pm an cdv ct us ws h1 h2 => match us, ws, h1, h2 with | [_, _], [], _, _ => .of_eq (by kernel_rfl))) (by kernel_rfl)) (by kernel_rfl) (by kernel_rfl) (by kernel_rfl) (pak_pos (ma_cons (me_v (i := 0) (by kernel_rfl)) (ma_cons me_int ma_nil))))) (mss_cons (ms_st (i := 7) (by kernel_rfl) (by kernel_rfl) (me_call B (k := 7) (ks := []) (l := [.p 0]) (FnW.t (ks := []) (dvs := []) (l := [.p 0]) ok_law_tour (fun f fd F => bdW0 F (fun s kV doc pm an cdv ct us ws h1 h2 => match us, ws, h1, h2 with | [_], [], _, _ => .of_eq (by kernel_rfl))) (by kernel_rfl)) (by kernel_rfl) (by kernel_rfl) (by kernel_rfl) (pak_pos (ma_cons (me_v (i := 6) (by kernel_rfl)) ma_nil)))) (mss_cons (ms_if (PW.pt (mw_or (mt_cm (c_ne B) (me_cm (c_eq B) (me_b (b_strO (k := 4) B (tabC (OwnT.mono (k := 4) (MfW.o okTour___str__ (fun f fd F => bdW0 F (fun s kV doc pm an cdv ct us ws h1 h2 => match us, ws, h1, h2 with | [_], [], _, _ => .of_eq (by kernel_rfl)))) (by kernel_rfl)) (tab1 (OwnT.mono (k := 4) (MfW.o okTrip___str__ (fun f fd F => bdW0 F (fun s kV doc pm an cdv ct us ws h1 h2 => match us, ws, h1, h2 with | [_], [], _, _ => .of_eq (by kernel_rfl)))) (by kernel_rfl)))) (by kernel_rfl)) (T.bn _ (by kernel_rfl)) (by kernel_rfl) (by kernel_rfl) (ma_cons (me_v (i := 7) (by kernel_rfl)) ma_nil)) (me_v (i := 3) (by kernel_rfl))) (me_cm (c_eqO (k := 3) (cs := [10, 9]) B (tabC (OwnT.mono (k := 3) (MfW.o okTour___eq__ (fun f fd F => bdW0 F (fun s kV doc pm an cdv ct us ws h1 h2 => match us, ws, h1, h2 with | [_, _], [], _, _ => .of_eq (by kernel_rfl)))) (by kernel_rfl)) (tab1 (OwnT.mono (k := 3) (MfW.o okTrip___eq__ (fun f fd F => bdW0 F (fun s kV doc pm an cdv ct us ws h1 h2 => match us, ws, h1, h2 with | [_, _], [], _, _ => .of_eq (by kernel_rfl)))) (by kernel_rfl)))) (by kernel_rfl) rfl T.b13) (me_v (i := 7) (by kernel_rfl)) (me_v (i := 2) (by kernel_rfl)))) (mw_or1 (mt_cm (c_ne B) (me_cm (c_eq B) (me_b (b_strO (k := 4) B (tabC (OwnT.mono (k := 4) (MfW.o okTour___str__ (fun f fd F => bdW0 F (fun s kV doc pm an cdv ct us ws h1 h2 => match us, ws, h1, h2 with | [_], [], _, _ => .of_eq (by kernel_rfl)))) (by kernel_rfl)) (tab1 (OwnT.mono (k := 4) (MfW.o okTrip___str__ (fun f fd F => bdW0 F (fun s kV doc pm an cdv ct us ws h1 h2 => match us, ws, h1, h2 with | [_], [], _, _ => .of_eq (by kernel_rfl)))) (by kernel_rfl)))) (by kernel_rfl)) (T.bn _ (by kernel_rfl)) (by kernel_rfl) (by kernel_rfl) (ma_cons (me_v (i := 7) (by kernel_rfl)) ma_nil)) (me_v (i := 3) (by kernel_rfl))) (me_cm (c_eqO (k := 3) (cs := [10, 9]) B (tabC (OwnT.mono (k := 3) (MfW.o okTour___eq__ (fun f fd F => bdW0 F (fun s kV doc pm an cdv ct us ws h1 h2 => match us, ws, h1, h2 with | [_, _], [], _, _ => .of_eq (by kernel_rfl)))) (by kernel_rfl)) (tab1 (OwnT.mono (k := 3) (MfW.o okTrip___eq__ (fun f fd F => bdW0 F (fun s kV doc pm an cdv ct us ws h1 h2 => match us, ws, h1, h2 with | [_, _], [], _, _ => .of_eq (by kernel_rfl)))) (by kernel_rfl)))) (by kernel_rfl) rfl T.b13) (me_v (i := 6) (by kernel_rfl)) (me_v (i := 1) (by kernel_rfl))))))) (mss_one (ms_ret me_bl)) mss_nil) (mss_cons (ms_st (i := 8) (by kernel_rfl) (by kernel_rfl) (me_call B (k := 2) (ks := []) (l := [.p 0, .p 1]) (FnW.t (ks := []) (dvs := []) (l := [.p 0, .p 1]) ok_law_pick (fun f fd F => bdW0 F (fun s kV doc pm an cdv ct us ws h1 h2 => match us, ws, h1, h2 with | [_, _], [], _, _ => .of_eq (by kernel_rfl))) (by kernel_rfl)) (by kernel_rfl) (by kernel_rfl) (by kernel_rfl) (pak_pos (ma_cons (me_v (i := 0) (by kernel_rfl)) (ma_cons (me_lst (ma_cons me_non (ma_cons me_int (ma_cons me_bl (ma_cons (me_lst (ma_cons (me_v (i := 3) (by kernel_rfl)) ma_nil)) (ma_cons (me_tup (ma_cons (me_v (i := 3) (by kernel_rfl)) ma_nil)) (ma_cons me_dict0 (ma_cons (me_v (i := 2) (by kernel_rfl)) (ma_cons (me_pow me_int me_int) ma_nil))))))))) ma_nil))))) (mss_one (ms_ret (me_cm (c_eq B) (me_lam B (k := 0) (kl := 6) ok_law_heard (by kernel_rfl) (by kernel_rfl) (by kernel_rfl) (by kernel_rfl) (hTB _ lt.2.2) hcd lt.1 lt.2.1 (by kernel_rfl) rfl (fun _ _ _ _ _ => rfl) (fun A outer s H E f c' G0 B0 hgA hrA => (me_clm (c := 10) (Bx.lam hgA hrA rfl hS) (k := 6) (ks := []) (l := [.p 0]) (CfW.t (ks := []) (dvs := []) (l := [.p 0]) okTour_read (fun f fd F => bdW0 F (fun s kV doc pm an cdv ct us ws h1 h2 => match us, ws, h1, h2 with | [_, _], [], _, _ => .of_eq (by kernel_rfl))) (by kernel_rfl)) (by kernel_rfl) (T.cm 10 _ (by kernel_rfl)) (by kernel_rfl) (by kernel_rfl) (pam_pos (ma_cons (me_v (i := 8) (by kernel_rfl)) ma_nil))))) (me_tup (ma_cons me_int (ma_cons me_int ma_nil))))))))))))))
/-! ### Tour_priced -/
def NTour_priced : List Str := ["self", "prices", "trips", "price", "trip"]
def bTour_priced : SX := (sSeq (sIf (mOrT (mNotT (mTru (mUn (dIsi2 "list" "tuple") (mVar 1)))) (mTest (mBin (dEq true) (mCB dLen (mCons (mVar 1) mNil)) (mCB dLen (mCons (mUn (dFld [(10, 0)] []) (mVar 0)) mNil))))) (sRaise 4 1 0 [] [.p 0] 1 (mCons (mC (.str "prices")) mNil) mNil) sNx) (sSeq (sIf (mNotT (mTru (mCB dAll (mCons (mComp (iAny itL (mVar 1)) (gN 3) mYes (mCallK mis_between 3 0 [] [.p 0, .p 1, .p 2] (mCons (mVar 3) (mCons (mC (.int 0)) (mCons (mC (.int 99)) mNil))) mNil) [3]) mNil)))) (sRaise 4 1 0 [] [.p 0] 1 (mCons (mC (.str "prices")) mNil) mNil) sNx) (sSeq (sSet 2 (mComp (iZipX (mCons (mUn (dFld [(10, 0)] []) (mVar 0)) (mCons (mVar 1) mNil))) (gT (gs1 (gN 4) (gs1 (gN 3) gs0))) mYes (mNew 9 iTrip 3 0 [.int 1] [.p 0, .p 1, .p 2] (mCons (mUn (dFld [(9, 0)] []) (mVar 4)) (mCons (mUn (dFld [(9, 1)] []) (mVar 4)) (mCons (mVar 3) mNil))) mNil) [4, 3])) (sRet (mNewS 10 iTour (mStar (mVar 2)))))))
def mTour_priced : List D → M D := fnM 2 5 bTour_priced
theorem okTour_priced (hS : ∃ o, base.get? sysModules = some o) (hTB : ∀ p ∈ tb, LamX.TabB base mg p.1 p.2) (T : Tp K mg cs tb) : MfW P w K mg base (sg K cs tb) 6 10 "priced" "Tour.priced" (inClass (top 33) 8) [] ["self", "prices"] mTour_priced := by
  obtain ⟨f, fd, F, h1, h2, h3⟩ := T.wTour_priced
  have okis_between := okis_between (P := P) (w := w) (base := base) hS hTB T
  have okTrip___init__ := okTrip___init__ (P := P) (w := w) (base := base) hS hTB T
  have okTour___init__ := okTour___init__ (P := P) (w := w) (base := base) hS hTB T
  refine ⟨f, fd, fn_okM (k := 5) (N := NTour_priced) (S := sg K cs tb) (body := bTour_priced) F.g (scpB_of (by kernel_rfl)) fun cdv A outer s pen G0 H E hcv hg hr => ?_, F, h1, h2, h3⟩
  have B := @Bx.def P w K mg base NTour_priced "Tour.priced" (defScope (inClass (top 33) 8)) f cdv A outer s H E (sg K cs tb) pen G0 H 5 hg hr rfl hS
  exact (mss_cons (ms_if (PW.pt (mw_or (mt_not (mt_tru B.hK (me_isi2 (n := "list") (n2 := "tuple") B (T.bn _ (by kernel_rfl)) (by kernel_rfl) (me_v (i := 1) (by kernel_rfl)) (by kernel_rfl) (T.bn _ (by kernel_rfl)) (by kernel_rfl) (by kernel_rfl) (T.bn _ (by kernel_rfl)) (by kernel_rfl)))) (mw_or1 (mt_cm (c_ne B) (me_b (b_len B) (T.bn _ (by kernel_rfl)) (by kernel_rfl) (by kernel_rfl) (ma_cons (me_v (i := 1) (by kernel_rfl)) ma_nil)) (me_b (b_len B) (T.bn _ (by kernel_rfl)) (by kernel_rfl) (by kernel_rfl) (ma_cons (me_f B T.b10 (by rfl) (me_v (i := 0) (by kernel_rfl))) ma_nil)))))) (mss_one (ms_thr (c := 4) B (xt_4_1 T) (by kernel_rfl) (by kernel_rfl) (by kernel_rfl) (pak_pos (ma_cons me_str ma_nil)))) mss_nil) (mss_cons (ms_if (mt_not (mt_tru B.hK (me_b (b_all B) (T.bn _ (by kernel_rfl)) (by kernel_rfl) (by kernel_rfl) (ma_cons (me_lc (own := [("price", 3)]) B.calm (nodB_of (by kernel_rfl)) (mi_any (k := 1) B (itab T) (by kernel_rfl) (me_v (i := 1) (by kernel_rfl))) (blkB_of (by kernel_rfl)) (fun s H C cl fp => (mg_nm (i := 3) (by kernel_rfl) (by kernel_rfl) (by kernel_rfl) (by kernel_rfl))) (fun s H C cl fp => mts_nil) (fun s H C cl fp => (me_call B.blk (k := 2) (ks := []) (l := [.p 0, .p 1, .p 2]) (FnW.t (ks := []) (dvs := []) (l := [.p 0, .p 1, .p 2]) okis_between (fun f fd F => bdW0 F (fun s kV doc pm an cdv ct us ws h1 h2 => match us, ws, h1, h2 with | [_, _, _], [], _, _ => .of_eq (by kernel_rfl))) (by kernel_rfl)) (by kernel_rfl) (by kernel_rfl) (by kernel_rfl) (pak_pos (ma_cons (me_v (i := 3) (by kernel_rfl)) (ma_cons me_int (ma_cons (me_ccon (c := 9) (z := (.i 99)) B.blk (T.cm 9 _ (by kernel_rfl)) T.b19 (by kernel_rfl) (by kernel_rfl)) ma_nil))))))) ma_nil)))) (mss_one (ms_thr (c := 4) B (xt_4_1 T) (by kernel_rfl) (by kernel_rfl) (by kernel_rfl) (pak_pos (ma_cons me_str ma_nil)))) mss_nil) (mss_cons (ms_setLc (own := [("trip", 4), ("price", 3)]) (i := 2) B.calm (nodB_of (by kernel_rfl)) (ixB_of (by kernel_rfl)) (lclB_of (by kernel_rfl)) rfl (mi_zipX B.hK (T.bn _ (by kernel_rfl)) (by kernel_rfl) (ma_cons (me_f B T.b10 (by rfl) (me_v (i := 0) (by kernel_rfl))) (ma_cons (me_v (i := 1) (by kernel_rfl)) ma_nil))) (blkB_of (by kernel_rfl)) (fun s H C cl fp => (mg_tup B.blk.hK B.blk.calm (mgs_cons (mg_nm (i := 4) (by kernel_rfl) (by kernel_rfl) (by kernel_rfl) (by kernel_rfl)) (mgs_cons (mg_nm (i := 3) (by kernel_rfl) (by kernel_rfl) (by kernel_rfl) (by kernel_rfl)) mgs_nil)) (n := 2) rfl (gl1 (gl1 gl0)))) (fun s H C cl fp => mts_nil) (fun s H C cl fp => (me_new (c := 9) B.blk (k := 3) (ks := []) (l := [.p 0, .p 1, .p 2]) (InW.t (ks := []) (dvs := [.int 1]) (l := [.p 0, .p 1, .p 2]) okTrip___init__ (T.cm 9 _ (by kernel_rfl)) T.b4 (fun f fd F => bdW1 F (fun T kV doc pm an cdv ct us its ws h1 h2 h3 => match us, its, ws, h1, h2, h3 with | [_, _, _, _], [_], [], _, _, _ => ⟨_, rfl, rfl⟩)) (by kernel_rfl)) (by kernel_rfl) (by kernel_rfl) (by kernel_rfl) (pak_pos (ma_cons (me_f B.blk T.b5 (by rfl) (me_v (i := 4) (by kernel_rfl))) (ma_cons (me_f B.blk T.b6 (by rfl) (me_v (i := 4) (by kernel_rfl))) (ma_cons (me_v (i := 3) (by kernel_rfl)) ma_nil))))))) (mss_one (ms_ret (me_newS (c := 10) B (k := 4) (InV.t okTour___init__ (T.cm 10 _ (by kernel_rfl)) T.b9) (by kernel_rfl) (by kernel_rfl) (by kernel_rfl) (pas_star (me_v (i := 2) (by kernel_rfl)) B.hK)))))))
/-! ### Trip_priced -/
def NTrip_priced : List Str := ["self", "price"]
def bTrip_priced : SX := (sRet (mNew 9 iTrip 3 0 [.int 1] [.p 0, .p 1, .p 2] (mCons (mUn (dFld [(9, 0)] []) (mVar 0)) (mCons (mUn (dFld [(9, 1)] []) (mVar 0)) (mCons (mVar 1) mNil))) mNil))
def mTrip_priced : List D → M D := fnM 2 2 bTrip_priced
theorem okTrip_priced (hS : ∃ o, base.get? sysModules = some o) (hTB : ∀ p ∈ tb, LamX.TabB base mg p.1 p.2) (T : Tp K mg cs tb) : MfW P w K mg base (sg K cs tb) 5 9 "priced" "Trip.priced" (inClass (top 23) 3) [] ["self", "price"] mTrip_priced := by
  obtain ⟨f, fd, F, h1, h2, h3⟩ := T.wTrip_priced
  have okTrip___init__ := okTrip___init__ (P := P) (w := w) (base := base) hS hTB T
  refine ⟨f, fd, fn_okM (k := 4) (N := NTrip_priced) (S := sg K cs tb) (body := bTrip_priced) F.g (scpB_of (by kernel_rfl)) fun cdv A outer s pen G0 H E hcv hg hr => ?_, F, h1, h2, h3⟩
  have B := @Bx.def P w K mg base NTrip_priced "Trip.priced" (defScope (inClass (top 23) 3)) f cdv A outer s H E (sg K cs tb) pen G0 H 4 hg hr rfl hS
  exact (mss_one (ms_ret (me_new (c := 9) B (k := 3) (ks := []) (l := [.p 0, .p 1, .p 2]) (InW.t (ks := []) (dvs := [.int 1]) (l := [.p 0, .p 1, .p 2]) okTrip___init__ (T.cm 9 _ (by kernel_rfl)) T.b4 (fun f fd F => bdW1 F (fun T kV doc pm an cdv ct us its ws h1 h2 h3 => match us, its, ws, h1, h2, h3 with | [_, _, _, _], [_], [], _, _, _ => ⟨_, rfl, rfl⟩)) (by kernel_rfl)) (by kernel_rfl) (by kernel_rfl) (by kernel_rfl) (pak_pos (ma_cons (me_f B T.b5 (by rfl) (me_v (i := 0) (by kernel_rfl))) (ma_cons (me_f B T.b6 (by rfl) (me_v (i := 0) (by kernel_rfl))) (ma_cons (me_v (i := 1) (by kernel_rfl)) ma_nil)))))))
/-! ### law -/
def Nlaw : List Str := ["_law_script", "_law_pen_here", "_law_turn", "_law_full"]
def blaw : SX := (sSeq (sFor (iRng (mCons (mC (.int 6)) mNil)) (gN 2) (sIf (mNotT (mTru (mCallK m_law_right 2 0 [] [.p 0, .p 1] (mCons (mVar 1) (mCons (mCallK m_law_plan 2 0 [] [.p 0, .p 1] (mCons (mVar 1) (mCons (mC (.int 12)) mNil)) mNil) mNil)) mNil))) (sRet (mC (.bl false))) sNx)) (sSeq (sSet 3 (mSM dJoin (mC (.str ", ")) (mCons (mBin dRep (mLst (mCons (mC (.str "a>b 0, b>a 99")) mNil)) (mC (.int 6))) mNil))) (sRet (mAndV (mBin (dEq false) (mCB (dStrO [(10, mTour___str__), (9, mTrip___str__)]) (mCons (mCM 10 mTour_read 1 0 [] [.p 0] (mCons (mVar 3) mNil) mNil) mNil)) (mVar 3)) (mBin (dEq false) (mCB (dStrO [(10, mTour___str__), (9, mTrip___str__)]) (mCons (mMth [(10, ([], [.p 0], mTour_priced)), (9, ([], [.p 0], mTrip_priced))] 1 0 (mCM 10 mTour_read 1 0 [] [.p 0] (mCons (mC (.str "a>b 10, b>a 9")) mNil) mNil) (mCons (mLst (mCons (mC (.int 0)) (mCons (mC (.int 10)) mNil))) mNil) mNil) mNil)) (mC (.str "a>b 0, b>a 10")))))))
/-! ### the law -/
theorem fn_law (hS : ∃ o, base.get? sysModules = some o) (hTB : ∀ p ∈ tb, LamX.TabB base mg p.1 p.2) (T : Tp K mg cs tb) {f : Addr} {fd : FuncData} (F : FunW K "law" "law" (top 45) [] f fd) : FnG P w K mg base 10 f fd ["_law_script"] (spLaw (sg K cs tb) Nlaw.length blaw) := by
  obtain ⟨fp, fdp, Fp, hmp, hkp⟩ := T.d_law_pen
  have okTour_read := okTour_read (P := P) (w := w) (base := base) hS hTB T
  have okTrip___str__ := okTrip___str__ (P := P) (w := w) (base := base) hS hTB T
  have okTour___str__ := okTour___str__ (P := P) (w := w) (base := base) hS hTB T
  have ok_law_plan := ok_law_plan (P := P) (w := w) (base := base) hS hTB T
  have ok_law_right := ok_law_right (P := P) (w := w) (base := base) hS hTB T
  have okTour_priced := okTour_priced (P := P) (w := w) (base := base) hS hTB T
  have okTrip_priced := okTrip_priced (P := P) (w := w) (base := base) hS hTB T
  have FP : FnG P w K mg base 1 fp fdp ["_law_script"] (spPen K) := fn_pen Fp.g (scpB_of (by kernel_rfl)) (gloB_of (by kernel_rfl)) (visB_of (by kernel_rfl)) (T.bn _ (by kernel_rfl)) rfl
  have bp : Bd K fdp ["_law_script"] 1 [] [] [.p 0] := bdW0 Fp (fun s kV doc pm an cdv ct us ws h1 h2 => match us, ws, h1, h2 with | [_], [], _, _ => .of_eq (by kernel_rfl))
  refine law_okM (k := 9) (N := Nlaw) (S := sg K cs tb) (body := blaw) rfl F.g (scpB_of (by kernel_rfl)) rfl (ixB_of (by kernel_rfl)) (ixB_of (by kernel_rfl)) (by decide) (locB_of (by kernel_rfl)) (visB_of (by kernel_rfl)) (gloB_of (by kernel_rfl)) (FP.mono (Nat.le_of_ble_eq_true (by kernel_rfl))) bp hmp hkp (fun _ => rfl) fun cdv A outer s pen G0 B0 H E hcv hg hr => ?_
  have B := @Bx.def P w K mg base Nlaw "law" (defScope (top 45)) f cdv A outer s H E (sg K cs tb) pen G0 B0 9 hg hr rfl hS
  exact (mss_cons (ms_for (js := [2]) (passes_of rfl) B.calm (mi_rng (gl_of (by kernel_rfl)) (T.bn _ (by kernel_rfl)) (ma_cons me_int ma_nil)) (mg_nm (i := 2) (by kernel_rfl) (by kernel_rfl) (by kernel_rfl) (by kernel_rfl)) (mss_one (ms_if (mt_not (mt_tru B.hK (me_call B (k := 9) (ks := []) (l := [.p 0, .p 1]) (FnW.t (ks := []) (dvs := []) (l := [.p 0, .p 1]) ok_law_right (fun f fd F => bdW0 F (fun s kV doc pm an cdv ct us ws h1 h2 => match us, ws, h1, h2 with | [_, _], [], _, _ => .of_eq (by kernel_rfl))) (by kernel_rfl)) (by kernel_rfl) (by kernel_rfl) (by kernel_rfl) (pak_pos (ma_cons (me_v (i := 1) (by kernel_rfl)) (ma_cons (me_call B (k := 3) (ks := []) (l := [.p 0, .p 1]) (FnW.t (ks := []) (dvs := []) (l := [.p 0, .p 1]) ok_law_plan (fun f fd F => bdW0 F (fun s kV doc pm an cdv ct us ws h1 h2 => match us, ws, h1, h2 with | [_, _], [], _, _ => .of_eq (by kernel_rfl))) (by kernel_rfl)) (by kernel_rfl) (by kernel_rfl) (by kernel_rfl) (pak_pos (ma_cons (me_v (i := 1) (by kernel_rfl)) (ma_cons me_int ma_nil)))) ma_nil)))))) (mss_one (ms_ret me_bl)) mss_nil))) (mss_cons (ms_st (i := 3) (by kernel_rfl) (by kernel_rfl) (me_sm PySem.F.slot_str_join PySem.F.type_str_join mt_join (r_join B.hK) me_str (ma_cons (me_rep (me_lst (ma_cons me_str ma_nil)) me_int) ma_nil))) (mss_one (ms_ret (me_and (me_cm (c_eq B) (me_b (b_strO (k := 4) B (tabC (OwnT.mono (k := 4) (MfW.o okTour___str__ (fun f fd F => bdW0 F (fun s kV doc pm an cdv ct us ws h1 h2 => match us, ws, h1, h2 with | [_], [], _, _ => .of_eq (by kernel_rfl)))) (by kernel_rfl)) (tab1 (OwnT.mono (k := 4) (MfW.o okTrip___str__ (fun f fd F => bdW0 F (fun s kV doc pm an cdv ct us ws h1 h2 => match us, ws, h1, h2 with | [_], [], _, _ => .of_eq (by kernel_rfl)))) (by kernel_rfl)))) (by kernel_rfl)) (T.bn _ (by kernel_rfl)) (by kernel_rfl) (by kernel_rfl) (ma_cons (me_clm (c := 10) B (k := 6) (ks := []) (l := [.p 0]) (CfW.t (ks := []) (dvs := []) (l := [.p 0]) okTour_read (fun f fd F => bdW0 F (fun s kV doc pm an cdv ct us ws h1 h2 => match us, ws, h1, h2 with | [_, _], [], _, _ => .of_eq (by kernel_rfl))) (by kernel_rfl)) (by kernel_rfl) (T.cm 10 _ (by kernel_rfl)) (by kernel_rfl) (by kernel_rfl) (pam_pos (ma_cons (me_v (i := 3) (by kernel_rfl)) ma_nil))) ma_nil)) (me_v (i := 3) (by kernel_rfl))) (me_one (me_cm (c_eq B) (me_b (b_strO (k := 4) B (tabC (OwnT.mono (k := 4) (MfW.o okTour___str__ (fun f fd F => bdW0 F (fun s kV doc pm an cdv ct us ws h1 h2 => match us, ws, h1, h2 with | [_], [], _, _ => .of_eq (by kernel_rfl)))) (by kernel_rfl)) (tab1 (OwnT.mono (k := 4) (MfW.o okTrip___str__ (fun f fd F => bdW0 F (fun s kV doc pm an cdv ct us ws h1 h2 => match us, ws, h1, h2 with | [_], [], _, _ => .of_eq (by kernel_rfl)))) (by kernel_rfl)))) (by kernel_rfl)) (T.bn _ (by kernel_rfl)) (by kernel_rfl) (by kernel_rfl) (ma_cons (me_mth (tbl := [(10, ([], [.p 0], mTour_priced)), (9, ([], [.p 0], mTrip_priced))]) (k := 6) (ks := []) B (tabC (MthT.mono (k := 6) (MfW.m (ks := []) (dvs := []) (l := [.p 0]) okTour_priced T.b20 (by kernel_rfl) (fun f fd F => bdW0 F (fun s kV doc pm an cdv ct us ws h1 h2 => match us, ws, h1, h2 with | [_, _], [], _, _ => .of_eq (by kernel_rfl))) (by kernel_rfl)) (by kernel_rfl)) (tab1 (MthT.mono (k := 6) (MfW.m (ks := []) (dvs := []) (l := [.p 0]) okTrip_priced T.b21 (by kernel_rfl) (fun f fd F => bdW0 F (fun s kV doc pm an cdv ct us ws h1 h2 => match us, ws, h1, h2 with | [_, _], [], _, _ => .of_eq (by kernel_rfl))) (by kernel_rfl)) (by kernel_rfl)))) (by kernel_rfl) (me_clm (c := 10) B (k := 6) (ks := []) (l := [.p 0]) (CfW.t (ks := []) (dvs := []) (l := [.p 0]) okTour_read (fun f fd F => bdW0 F (fun s kV doc pm an cdv ct us ws h1 h2 => match us, ws, h1, h2 with | [_, _], [], _, _ => .of_eq (by kernel_rfl))) (by kernel_rfl)) (by kernel_rfl) (T.cm 10 _ (by kernel_rfl)) (by kernel_rfl) (by kernel_rfl) (pam_pos (ma_cons me_str ma_nil))) (pak_pos (ma_cons (me_lst (ma_cons me_int (ma_cons me_int ma_nil))) ma_nil))) ma_nil)) me_str)))))))
end
end Lw

namespace Lw
open PySem ME
section
variable {δ δ1 δ2 δ' : DS} {p p1 p2 p' : Pn}
theorem seq_ret {s t : SX} {d : D} (h : s δ p = some (.rt d, p')) : sSeq s t δ p = some (.rt d, p') := by
  unfold sSeq
  rw [h]
theorem seq_er {s t : SX} {c : Nat} {fs : List D} (h : s δ p = some (.er c fs δ', p')) : sSeq s t δ p = some (.er c fs δ', p') := by
  unfold sSeq
  rw [h]
theorem set_er {i : Nat} {e : EX} {c : Nat} {fs : List D} (h : e δ p = some (.ex c fs, p')) : sSet i e δ p = some (.er c fs δ, p') := by
  unfold sSet sBnd
  rw [h]
theorem fn_nx {np n : Nat} {s : SX} {ds : List D} (hl : ds.length = np) (h : s (dsOf n ds) p = some (.nx δ, p')) : fnM np n s ds p = some (.ok .non, p') := fn_run hl h
theorem fn_er {np n : Nat} {s : SX} {ds : List D} {c : Nat} {fs : List D} (hl : ds.length = np) (h : s (dsOf n ds) p = some (.er c fs δ', p')) : fnM np n s ds p = some (.ex c fs, p') := fn_run hl h
theorem for_ret {g : GX} {s : SX} {d z : D} {ds : List D} (hg : g d δ = some δ1) (hs : s δ1 p = some (.rt z, p')) : forGo g s (d :: ds) δ p = some (.rt z, p') := by
  unfold forGo
  rw [hg]
  dsimp only
  rw [hs]
theorem for_er {g : GX} {s : SX} {d : D} {ds : List D} {c : Nat} {fs : List D} (hg : g d δ = some δ1) (hs : s δ1 p = some (.er c fs δ2, p')) : forGo g s (d :: ds) δ p = some (.er c fs δ2, p') := by
  unfold forGo
  rw [hg]
  dsimp only
  rw [hs]
theorem mif_no {c : TX} {a b : EX} {r : Option (Out D × Pn)} (h : c δ p = some (.ok false, p1)) (h2 : b δ p1 = r) : mIf c a b δ p = r := by
  unfold mIf M.bnd
  rw [h]
  exact h2
theorem mif_yes {c : TX} {a b : EX} {r : Option (Out D × Pn)} (h : c δ p = some (.ok true, p1)) (h2 : a δ p1 = r) : mIf c a b δ p = r := by
  unfold mIf M.bnd
  rw [h]
  exact h2
theorem andV_t {a b : EX} {r : Option (Out D × Pn)} (h1 : a δ p = some (.ok (.bl true), p1)) (h2 : b δ p1 = r) : mAndV a b δ p = r := by
  unfold mAndV M.bnd
  rw [h1]
  exact h2
theorem andT_t {a b : TX} {r : Option (Out Bool × Pn)} (h1 : a δ p = some (.ok true, p1)) (h2 : b δ p1 = r) : mAndT a b δ p = r := by
  unfold mAndT M.bnd
  rw [h1]
  exact h2
theorem andT_f {a b : TX} (h1 : a δ p = some (.ok false, p1)) : mAndT a b δ p = some (.ok false, p1) := by
  unfold mAndT M.bnd
  rw [h1]
  rfl
theorem orT_t {a b : TX} (h1 : a δ p = some (.ok true, p1)) : mOrT a b δ p = some (.ok true, p1) := by
  unfold mOrT M.bnd
  rw [h1]
  rfl
theorem newS_run {c : Nat} {f : List D → M (List D)} {ra : AX} {xs : List D} {r : Option (Out D × Pn)} (h1 : ra δ p = some (.ok xs, p1)) (hz : szOk (xs.length + 1) = true) (h2 : ((f [.tup xs]).bnd fun fs => M.ret (.obj c fs)) p1 = r) : mNewS c f ra δ p = r := by
  unfold mNewS
  unfold M.bnd at h2 ⊢
  rw [h1]
  dsimp only
  rw [if_pos hz]
  exact h2
theorem star_run {e : EX} {l : List D} (h : e δ p = some (.ok (.lst l), p1)) : mStar e δ p = some (.ok l, p1) := by
  unfold mStar M.bnd
  rw [h]
  rfl
theorem iAny_t {tbl : List (Nat × Nat)} {e : EX} {l : List D} (h : e δ p = some (.ok (.tup l), p1)) : iAny tbl e δ p = some (.ok l, p1) := by
  unfold iAny M.bnd
  rw [h]
  rfl
theorem iAny_l {tbl : List (Nat × Nat)} {e : EX} {l : List D} (h : e δ p = some (.ok (.lst l), p1)) : iAny tbl e δ p = some (.ok l, p1) := by
  unfold iAny M.bnd
  rw [h]
  rfl
theorem unp2 {i j : Nat} {a b : EX} {x y : D} (h1 : a δ p = some (.ok x, p1)) (h2 : b δ p1 = some (.ok y, p2)) : sUnp (gT (gs1 (gN i) (gs1 (gN j) gs0))) (mTup (mCons a (mCons b mNil))) δ p = some (.nx ((δ.set i (some (.d x))).set j (some (.d y))), p2) := by
  unfold sUnp sBnd
  rw [tup_run (xs := [x, y]) (cons_run h1 (cons_run h2 rfl)) rfl]
  rfl
theorem unp_run {g : GX} {e : EX} {d : D} (h1 : e δ p = some (.ok d, p1)) (h2 : g d δ = some δ') : sUnp g e δ p = some (.nx δ', p1) := by
  unfold sUnp sBnd
  rw [h1]
  dsimp only
  rw [h2]
theorem appPop_run {i j n : Nat} {e : EX} {xs ys : List D} {k : Int} {y : D} (hi : δ[i]? = some (some (.ml xs))) (hj : δ[j]? = some (some (.ml ys))) (he : e δ p = some (.ok (.int k), p1)) (h0 : 0 ≤ k) (h1 : k < 1000) (hn : k.toNat = n) (hy : ys[n]? = some y) (hx : xs.length < 1000) :
    sAppPop i j e δ p = some (.nx ((δ.set j (some (.ml (ys.eraseIdx n)))).set i (some (.ml (xs ++ [y])))), p1) := by
  unfold sAppPop
  rw [hi]
  dsimp only
  rw [hj]
  dsimp only
  unfold sBnd
  rw [he]
  dsimp only
  have hlt : n < ys.length := (List.getElem?_eq_some_iff.mp hy).1
  have e : seqIndex? k ys.length = some n := by
    unfold seqIndex?
    simp only []
    rw [← hn] at hlt ⊢
    split <;> simp_all <;> omega
  rw [e]
  dsimp only
  rw [hy]
  dsimp only
  rw [if_pos]
  simp only [Bool.and_eq_true, decide_eq_true_eq]
  exact ⟨⟨by omega, by omega⟩, by omega⟩
theorem lenM_run {i : Nat} {xs : List D} (hi : δ[i]? = some (some (.ml xs))) : mLenM i δ p = some (.ok (.int xs.length), p) := by
  unfold mLenM
  rw [hi]
  rfl
theorem ixM_run {i : Nat} {e : EX} {xs : List D} {k : Int} {d : D} (hi : δ[i]? = some (some (.ml xs))) (he : e δ p = some (.ok (.int k), p1)) (h : L2.atI xs k = some d) : mIxM i e δ p = some (.ok d, p1) := by
  unfold mIxM
  rw [hi]
  dsimp only
  unfold M.bnd
  rw [he]
  dsimp only
  rw [h]
  rfl
end
/-! ### comprehensions -/
theorem comp_go {g : GX} {t : TX} {e : EX} {δ : DS} {p : Pn} {T : D → Bool} {F : D → D} : ∀ (ds acc : List D), (∀ d ∈ ds, ∃ δ1, g d δ = some δ1 ∧ t δ1 p = some (.ok (T d), p) ∧ (T d = true → e δ1 p = some (.ok (F d), p))) → acc.length + ds.length ≤ 16777216 →
    compGo g t e δ ds acc p = some (.ok (.lst (acc ++ (ds.filter T).map F)), p)
  | [], acc, _, hl => by
    unfold compGo szOk
    rw [if_pos (by simpa using hl)]
    simp [M.ret]
  | d :: r, acc, h, hl => by
    obtain ⟨δ1, hg, ht, he⟩ := h d List.mem_cons_self
    rw [List.length_cons] at hl
    unfold compGo
    rw [hg]
    dsimp only [M.bnd, M.calm]
    rw [ht]
    dsimp only
    cases hT : T d with
    | true =>
      rw [if_pos rfl]
      dsimp only [M.bnd, M.calm]
      rw [he hT]
      dsimp only
      rw [if_pos (by simpa using (show acc.length < 16777216 by omega)), comp_go r (acc ++ [F d]) (fun x hx => h x (List.mem_cons_of_mem _ hx)) (by rw [List.length_append, List.length_singleton]; omega), List.filter_cons_of_pos hT]
      simp
    | false =>
      rw [if_neg (by simp), comp_go r acc (fun x hx => h x (List.mem_cons_of_mem _ hx)) (by omega), List.filter_cons_of_neg (by simp [hT])]
theorem comp_run {f : DS → M (List D)} {g : GX} {t : TX} {e : EX} {vs : List Nat} {δ : DS} {p p1 : Pn} {ds : List D} {T : D → Bool} {F : D → D} (h1 : f δ p = some (.ok ds, p1)) (h : ∀ d ∈ ds, ∃ δ1, g d (wipeD δ vs) = some δ1 ∧ t δ1 p1 = some (.ok (T d), p1) ∧ (T d = true → e δ1 p1 = some (.ok (F d), p1))) (hl : ds.length ≤ 16777216) :
    mComp f g t e vs δ p = some (.ok (.lst ((ds.filter T).map F)), p1) := by
  unfold mComp M.bnd
  rw [h1]
  dsimp only
  have := comp_go (g := g) (t := t) (e := e) ds [] h (by simpa using hl)
  simpa using this
/-- every item of xs gives its value -/
theorem comp_all {α : Type} {f : DS → M (List D)} {g : GX} {e : EX} {vs : List Nat} {δ : DS} {p p1 : Pn} {xs : List α} {a b : α → D} (h1 : f δ p = some (.ok (xs.map a), p1)) (h : ∀ x ∈ xs, ∃ δ1, g (a x) (wipeD δ vs) = some δ1 ∧ e δ1 p1 = some (.ok (b x), p1)) (hl : xs.length ≤ 16777216) :
    mComp f g mYes e vs δ p = some (.ok (.lst (xs.map b)), p1) := by
  unfold mComp M.bnd
  rw [h1]
  dsimp only
  suffices H : ∀ (l : List α) (acc : List D), (∀ x ∈ l, x ∈ xs) → acc.length + l.length ≤ 16777216 → compGo g mYes e (wipeD δ vs) (l.map a) acc p1 = some (.ok (.lst (acc ++ l.map b)), p1) by
    have := H xs [] (fun _ h => h) (by simpa using hl)
    simpa using this
  intro l
  induction l with
  | nil =>
    intro acc _ hl
    show compGo g mYes e _ [] acc p1 = _
    unfold compGo szOk
    rw [if_pos (by simpa using hl)]
    simp [M.ret]
  | cons x r ih =>
    intro acc hm hl
    rw [List.length_cons] at hl
    obtain ⟨δ1, hg, he⟩ := h x (hm x List.mem_cons_self)
    show compGo g mYes e _ (a x :: r.map a) acc p1 = _
    rw [compGo, hg]
    dsimp only [M.bnd, M.calm, mYes, M.ret]
    rw [if_pos rfl]
    dsimp only [M.bnd, M.calm]
    rw [he]
    dsimp only
    rw [if_pos (by simpa using (show acc.length < 16777216 by omega)), ih (acc ++ [b x]) (fun y hy => hm y (List.mem_cons_of_mem _ hy)) (by rw [List.length_append, List.length_singleton]; omega)]
    simp
theorem strs_map : ∀ l : List Str, strsOf (l.map D.str) = some l
  | [] => rfl
  | x :: l => by simp [strsOf, strs_map l]
theorem dAdd_l {a b : List D} (h : a.length + b.length ≤ 1000) (q : Pn) : dAdd (.lst a) (.lst b) q = some (.ok (.lst (a ++ b)), q) := by
  show (if szOk (a.length + b.length) = true then M.ret (D.lst (a ++ b)) else M.stuck) q = _
  unfold szOk
  rw [if_pos (by simpa using (show a.length + b.length ≤ 16777216 by omega))]
  rfl
theorem dLen_l {a : List D} (q : Pn) : dLen [.lst a] q = some (.ok (.int a.length), q) := rfl
theorem dLen_t {a : List D} (q : Pn) : dLen [.tup a] q = some (.ok (.int a.length), q) := rfl
theorem dEq_int (neg : Bool) {i j : Int} (q : Pn) : dEq neg (.int i) (.int j) q = some (.ok (.bl (neg ^^ (i == j))), q) := by
  simp [dEq, toPy, SeqAt.shaped, PyData.canLay0, PyData.depth, PyData.eqv, M.ret]
theorem dEq_strs {x y : Str} (q : Pn) : dEq false (.str x) (.str y) q = some (.ok (.bl (x == y)), q) := by
  show M.ret (D.bl (false ^^ (x == y))) q = _
  simp [M.ret]
theorem dNe_strs {x y : Str} (q : Pn) : dEq true (.str x) (.str y) q = some (.ok (.bl (!(x == y))), q) := by
  show M.ret (D.bl (true ^^ (x == y))) q = _
  simp [M.ret]
theorem cmp_lt {a b : Int} (q : Pn) : (dCmpI fun i j => decide (i < j)) (.int a) (.int b) q = some (.ok (.bl (decide (a < b))), q) := rfl
theorem cmp_gt {a b : Int} (q : Pn) : (dCmpI fun i j => decide (j < i)) (.int a) (.int b) q = some (.ok (.bl (decide (b < a))), q) := rfl
theorem cmp_le {a b : Int} (q : Pn) : (dCmpI fun i j => decide (i ≤ j)) (.int a) (.int b) q = some (.ok (.bl (decide (a ≤ b))), q) := rfl
theorem cmp_ge {a b : Int} (q : Pn) : (dCmpI fun i j => decide (j ≤ i)) (.int a) (.int b) q = some (.ok (.bl (decide (b ≤ a))), q) := rfl
theorem bls_all {α : Type} : ∀ l : List α, blsOf (l.map fun _ => D.bl true) = some (l.map fun _ => true)
  | [] => rfl
  | x :: l => by simp [blsOf, bls_all l]
/-! ### what can be compared -/
def Sh (d : D) : Prop := ∃ P, toPy d = some P ∧ P.canLay0 = true ∧ P.depth ≤ 8
theorem sh_self {d : D} (h : Sh d) (neg : Bool) (q : Pn) : dEq neg d d q = some (.ok (.bl (!neg)), q) := by
  obtain ⟨P, h1, h2, h3⟩ := h
  have hs : SeqAt.shaped P = true := by
    unfold SeqAt.shaped
    rw [h2, decide_eq_true (show P.depth ≤ 64 by omega)]
    rfl
  have key : ∀ d, toPy d = some P → (match toPy d, toPy d with
    | some p, some q => if SeqAt.shaped p && SeqAt.shaped q then M.ret (D.bl (neg ^^ PyData.eqv p q)) else M.stuck
    | _, _ => M.stuck) q = some (.ok (.bl (!neg)), q) := fun d hd => by
    rw [hd]
    dsimp only
    rw [if_pos (by rw [hs]; rfl), SeqAt.eqv_refl P h2]
    cases neg <;> rfl
  cases d <;> first | exact key _ h1 | (simp [dEq, M.ret])
theorem sh_list {l : List D} (h : ∀ d ∈ l, ∃ P, toPy d = some P ∧ P.canLay0 = true ∧ P.depth ≤ 5) : ∃ Ps, toPyL l = some Ps ∧ PyData.canLayAll0 Ps = true ∧ PyData.depthAll Ps ≤ 5 := by
  induction l with
  | nil => exact ⟨[], rfl, rfl, by simp [PyData.depthAll]⟩
  | cons d r ih =>
    obtain ⟨P, h1, h2, h3⟩ := h d List.mem_cons_self
    obtain ⟨Ps, k1, k2, k3⟩ := ih fun e he => h e (List.mem_cons_of_mem _ he)
    refine ⟨P :: Ps, by simp only [toPyL, h1, k1], by simp [PyData.canLayAll0, h2, k2], ?_⟩
    simp only [PyData.depthAll]
    omega
theorem eq_nil {l : List D} (neg : Bool) (h : ∀ d ∈ l, ∃ P, toPy d = some P ∧ P.canLay0 = true ∧ P.depth ≤ 5) (q : Pn) : dEq neg (.lst l) (.lst []) q = some (.ok (.bl (neg ^^ l.isEmpty)), q) := by
  obtain ⟨Ps, h1, h2, h3⟩ := sh_list h
  have e1 : toPy (.lst l) = some (.list Ps) := by simp only [toPy, h1, Option.map_some]
  have e2 : toPy (.lst []) = some (.list []) := rfl
  have hs : (SeqAt.shaped (.list Ps) && SeqAt.shaped (.list [])) = true := by
    simp [SeqAt.shaped, PyData.canLay0, PyData.canLayAll0, PyData.depth, PyData.depthAll, h2]
    omega
  show (match toPy (.lst l), toPy (.lst []) with
    | some p, some q => if SeqAt.shaped p && SeqAt.shaped q then M.ret (D.bl (neg ^^ PyData.eqv p q)) else M.stuck
    | _, _ => M.stuck) q = _
  rw [e1, e2]
  dsimp only
  rw [if_pos hs]
  cases l with
  | nil => cases h1; simp [M.ret, PyData.eqv, PyData.eqvAll]
  | cons d r =>
    simp only [toPyL] at h1
    split at h1
    · cases h1
      simp [M.ret, PyData.eqv, PyData.eqvAll]
    · cases h1
end Lw

namespace Lw
open PySem ME
/-! ### names and trips -/
abbrev Tr (x y : Str) (i : Int) : D := .obj 9 [.str x, .str y, .int i]
abbrev Trp := Str × Str × Int
def trD (t : Trp) : D := Tr t.1 t.2.1 t.2.2
def rowT (t : Trp) : D := .tup [.str t.1, .str t.2.1, .int t.2.2]
structure Nm (x : Str) : Prop where
  n : ∀ q, mis_name [.str x] q = some (.ok (.bl true), q)
  s : PyData.canLay0 (.str x) = true
  c : ∀ k ∈ x.cps.toList, 97 ≤ k
  l : x.length ≤ 8
def allNames : List Str := ["tour", "at", "paid", "a", "ab", "zzzzzzzz", "b", "c", "d", "zz", "q"]
theorem nm_all : ∀ x ∈ allNames, Nm x := by
  intro x hx
  unfold allNames at hx
  simp only [List.mem_cons, List.not_mem_nil, or_false] at hx
  rcases hx with rfl | rfl | rfl | rfl | rfl | rfl | rfl | rfl | rfl | rfl | rfl <;> exact ⟨fun q => by kernel_rfl, by kernel_rfl, by decide +kernel, by decide⟩
structure TOk (t : Trp) : Prop where
  s : Nm t.1
  g : Nm t.2.1
  ne : t.1 ≠ t.2.1
  lo : 0 ≤ t.2.2
  hi : t.2.2 ≤ 99
def Bt (d : D) (b : Bool) : Prop := ∀ q, mis_between [d, .int 0, .int 99] q = some (.ok (.bl b), q)
theorem bt_int {i : Int} (h0 : 0 ≤ i) (h1 : i ≤ 99) : Bt (.int i) true := fun q => by
  have e : mis_integer [.int i] q = some (.ok (.bl true), q) := by kernel_rfl
  simp [mExcG, mNew, mMth, fnM, outOf, dsOf, sSeq, sRet, sIf, sSet, sBnd, sNx, sRaise, sPut, mTest, mTru, mNotT, mAndT, mOrT, mAndV, mOrV, mNotV, mBin, mUn, mCons, mNil, mCB, mCallK, mC, mVar, mTup, mLst, mIf, mChn, M.bnd, M.ret, M.opt, M.stuck, M.err, dB, dTru, pick, dCmpI, szOk, mis_between, bis_between, e, h0, h1]
theorem init_ok {t : Trp} (h : TOk t) (q : Pn) : iTrip [.str t.1, .str t.2.1, .int t.2.2] q = some (.ok [.str t.1, .str t.2.1, .int t.2.2], q) := by
  have hn : (t.1 == t.2.1) = false := by simpa using h.ne
  have hb := bt_int h.lo h.hi
  simp [mExcG, mNew, mMth, fnM, outOf, dsOf, sSeq, sRet, sIf, sSet, sBnd, sNx, sRaise, sPut, mTest, mTru, mNotT, mAndT, mOrT, mAndV, mOrV, mNotV, mBin, mUn, mCons, mNil, mCB, mCallK, mC, mVar, mTup, mLst, mIf, mChn, M.bnd, M.ret, M.opt, M.stuck, M.err, dB, dTru, pick, dCmpI, szOk, iTrip, inM, inOf, bTrip___init__, dsI, sFor, iTpl, forGo, gN, h.s.n, h.g.n, dEq, hn, hb q, mConS, Cn.d]
theorem row_py {t : Trp} (h : TOk t) : ∃ P, toPy (rowT t) = some P ∧ P.canLay0 = true ∧ P.depth ≤ 5 := by
  refine ⟨.tuple [.str t.1, .str t.2.1, .int t.2.2], rfl, ?_, by simp [PyData.depth, PyData.depthAll]⟩
  have a := h.s.s
  have b := h.g.s
  simp [PyData.canLay0, PyData.canLayAll0] at a b ⊢
  exact ⟨a, b⟩
/-! ### yards -/
def ysOf (ts : List Trp) : List Str := ts.map (·.1) ++ ts.map (·.2.1)
section
variable {ts : List Trp}
theorem yards_run (h12 : ts.length ≤ 14) (q : Pn) : myards_of [.tup (ts.map trD)] q = some (.ok (.tup ((srtU (ysOf ts)).map D.str)), q) := by
  have hz : (ysOf ts).length < 63 := by unfold ysOf; simp; omega
  refine fn_ret rfl (seq_run (set_run (d := .lst ((ysOf ts).map D.str)) (p' := q) (bn (x := .lst (ts.map fun t => D.str t.1)) (y := .lst (ts.map fun t => D.str t.2.1)) (p1 := q) (p2 := q) ?_ ?_ ?_)) (ret_run (cb_run (xs := [.lst ((srtU (ysOf ts)).map D.str)]) (p1 := q) (cons_run (p1 := q) (un_run (x := .lst ((ysOf ts).map D.str)) (p1 := q) rfl ?_) rfl) rfl)))
  · exact comp_all (xs := ts) (a := trD) (p1 := q) rfl (fun t _ => ⟨_, rfl, by kernel_rfl⟩) (by omega)
  · exact comp_all (xs := ts) (a := trD) (p1 := q) rfl (fun t _ => ⟨_, rfl, by kernel_rfl⟩) (by omega)
  · rw [dAdd_l (by simp; omega)]
    unfold ysOf
    rw [List.map_append, List.map_map, List.map_map]; rfl
  · unfold dSSet
    dsimp only
    rw [strs_map]
    dsimp only
    rw [if_pos (by simpa using hz)]
    rfl
/-! ### the checks of a tour -/
def balB (ts : List Trp) (y : Str) : Bool := (ts.filter fun t => t.1 == y).length == (ts.filter fun t => t.2.1 == y).length
def firstBad (ts : List Trp) : Option Str := (srtU (ysOf ts)).find? fun y => !balB ts y
def tripsOut (ts : List Trp) : Out D := if ts.length < 2 then .ex 4 [.str "trips"] else if 12 < ts.length then .ex 8 [.str "trips", .int 12] else if 6 < (srtU (ysOf ts)).length then .ex 8 [.str "yards", .int 6] else .ok .non
theorem trips_run (h12 : ts.length ≤ 14) (q : Pn) : mneed_trips [.tup (ts.map trD)] q = some (tripsOut ts, q) := by
  have hl : (ts.map trD).length = ts.length := List.length_map _
  have c1 : (mComp (iAny itL (mVar 0)) (gN 1) mYes (mCB (dIsi isT) (mCons (mVar 1) (mCons (mC (.cls 9)) mNil))) [1]) [some (.d (.tup (ts.map trD))), none] q = some (.ok (.lst (ts.map fun _ => D.bl true)), q) :=
    comp_all (xs := ts) (a := trD) (p1 := q) rfl (fun t _ => ⟨_, rfl, by kernel_rfl⟩) (by omega)
  have c2 : dAll [.lst (ts.map fun _ => D.bl true)] q = some (.ok (.bl true), q) := by
    unfold dAll
    dsimp only
    rw [bls_all]
    dsimp only
    have : (ts.map fun _ => true).all id = true := by simp
    rw [this]; rfl
  have t1 : (mTest (mBin (dCmpI fun i j => decide (i < j)) (mCB dLen (mCons (mVar 0) mNil)) (mC (.int 2)))) [some (.d (.tup (ts.map trD))), none] q = some (.ok (decide (ts.length < 2)), q) := by
    refine test_run (bn (x := .int ((ts.map trD).length : Int)) (y := .int 2) (p1 := q) (p2 := q) rfl rfl ?_)
    rw [cmp_lt, hl]
    have : decide ((ts.length : Int) < 2) = decide (ts.length < 2) := by
      rcases Nat.lt_or_ge ts.length 2 with h | h
      · rw [decide_eq_true h, decide_eq_true (by omega)]
      · rw [decide_eq_false (by omega), decide_eq_false (by omega)]
    rw [this]
  have t2 : (mNotT (mTru (mCB dAll (mCons (mComp (iAny itL (mVar 0)) (gN 1) mYes (mCB (dIsi isT) (mCons (mVar 1) (mCons (mC (.cls 9)) mNil))) [1]) mNil)))) [some (.d (.tup (ts.map trD))), none] q = some (.ok false, q) := notT_run (b := true) (tru_run (x := .bl true) (p1 := q) (cb_run (xs := [.lst (ts.map fun _ => D.bl true)]) (p1 := q) (cons_run (p1 := q) c1 nil_run) c2) rfl)
  have t3 : (mTest (mBin (dCmpI fun i j => decide (j < i)) (mCB dLen (mCons (mVar 0) mNil)) (mC (.int 12)))) [some (.d (.tup (ts.map trD))), none] q = some (.ok (decide (12 < ts.length)), q) := by
    refine test_run (bn (x := .int ((ts.map trD).length : Int)) (y := .int 12) (p1 := q) (p2 := q) rfl rfl ?_)
    rw [cmp_gt, hl]
    have : decide ((12 : Int) < (ts.length : Int)) = decide (12 < ts.length) := by
      rcases Nat.lt_or_ge 12 ts.length with h | h
      · rw [decide_eq_true h, decide_eq_true (by omega)]
      · rw [decide_eq_false (by omega), decide_eq_false (by omega)]
    rw [this]
  have y1 : (mCallK myards_of 1 0 [] [.p 0] (mCons (mVar 0) mNil) mNil) [some (.d (.tup (ts.map trD))), none] q = some (.ok (.tup ((srtU (ysOf ts)).map D.str)), q) := callK_run (xs := [.tup (ts.map trD)]) rfl rfl ⟨rfl, rfl⟩ (yards_run h12 q)
  have t4 : (mTest (mBin (dCmpI fun i j => decide (j < i)) (mCB dLen (mCons (mCallK myards_of 1 0 [] [.p 0] (mCons (mVar 0) mNil) mNil) mNil)) (mC (.int 6)))) [some (.d (.tup (ts.map trD))), none] q = some (.ok (decide (6 < (srtU (ysOf ts)).length)), q) := by
    refine test_run (bn (x := .int (((srtU (ysOf ts)).map D.str).length : Int)) (y := .int 6) (p1 := q) (p2 := q) (cb_run (xs := [.tup ((srtU (ysOf ts)).map D.str)]) (p1 := q) (cons_run (p1 := q) y1 nil_run) (dLen_t q)) rfl ?_)
    rw [cmp_gt, List.length_map]
    have : decide ((6 : Int) < ((srtU (ysOf ts)).length : Int)) = decide (6 < (srtU (ysOf ts)).length) := by
      rcases Nat.lt_or_ge 6 (srtU (ysOf ts)).length with h | h
      · rw [decide_eq_true h, decide_eq_true (by omega)]
      · rw [decide_eq_false (by omega), decide_eq_false (by omega)]
    rw [this]
  unfold tripsOut
  by_cases h2 : ts.length < 2
  · rw [if_pos h2]
    rw [decide_eq_true h2] at t1
    exact fn_er (δ' := [some (.d (.tup (ts.map trD))), none]) rfl (seq_er (if_yes (orT_t t1) (by kernel_rfl)))
  · rw [if_neg h2]
    rw [decide_eq_false h2] at t1
    by_cases h3 : 12 < ts.length
    · rw [if_pos h3]
      rw [decide_eq_true h3] at t3
      exact fn_er (δ' := [some (.d (.tup (ts.map trD))), none]) rfl (seq_run (if_no (orT_ff t1 t2) rfl) (seq_er (if_yes t3 (by kernel_rfl))))
    · rw [if_neg h3]
      rw [decide_eq_false h3] at t3
      by_cases h4 : 6 < (srtU (ysOf ts)).length
      · rw [if_pos h4]
        rw [decide_eq_true h4] at t4
        exact fn_er (δ' := [some (.d (.tup (ts.map trD))), none]) rfl (seq_run (if_no (orT_ff t1 t2) rfl) (seq_run (if_no t3 rfl) (if_yes t4 (by kernel_rfl))))
      · rw [if_neg h4]
        rw [decide_eq_false h4] at t4
        exact fn_nx rfl (seq_run (if_no (orT_ff t1 t2) rfl) (seq_run (if_no t3 rfl) (if_no t4 rfl)))
def stT (y : Str) (d : D) : Bool := match d with | .obj _ (.str x :: _) => x == y | _ => false
def goT (y : Str) (d : D) : Bool := match d with | .obj _ (_ :: .str x :: _) => x == y | _ => false
def balS : SX := (sSeq (sSet 2 (mComp (iAny itL (mVar 0)) (gN 4) (mTest (mBin (dEq false) (mUn (dFld [(9, 0)] []) (mVar 4)) (mVar 1))) (mVar 4) [4])) (sSeq (sSet 3 (mComp (iAny itL (mVar 0)) (gN 4) (mTest (mBin (dEq false) (mUn (dFld [(9, 1)] []) (mVar 4)) (mVar 1))) (mVar 4) [4])) (sIf (mTest (mBin (dEq true) (mCB dLen (mCons (mVar 2) mNil)) (mCB dLen (mCons (mVar 3) mNil)))) (sRaise 7 1 0 [] [.p 0] 1 (mCons (mVar 1) mNil) mNil) sNx)))
theorem mem_tr {d : D} (h : d ∈ ts.map trD) : ∃ t ∈ ts, d = trD t := by
  obtain ⟨t, ht, rfl⟩ := List.mem_map.mp h
  exact ⟨t, ht, rfl⟩
theorem bal_step (h12 : ts.length ≤ 14) (y : Str) (b2 b3 : Option Sl) (q : Pn) :
    ∃ c2 c3, balS [some (.d (.tup (ts.map trD))), some (.d (.str y)), b2, b3, none] q = if balB ts y = true then some (.nx [some (.d (.tup (ts.map trD))), some (.d (.str y)), c2, c3, none], q) else some (.er 7 [.str y] [some (.d (.tup (ts.map trD))), some (.d (.str y)), c2, c3, none], q) := by
  have hl : (ts.map trD).length = ts.length := List.length_map _
  have e1 : ((((ts.map trD).filter (stT y)).map id)).length = (ts.filter fun t => t.1 == y).length := by
    rw [List.map_id, List.filter_map, List.length_map]; rfl
  have e2 : ((((ts.map trD).filter (goT y)).map id)).length = (ts.filter fun t => t.2.1 == y).length := by
    rw [List.map_id, List.filter_map, List.length_map]; rfl
  have hd : dEq true (.int (((((ts.map trD).filter (stT y)).map id)).length : Int)) (.int (((((ts.map trD).filter (goT y)).map id)).length : Int)) q = some (.ok (.bl (!balB ts y)), q) := by
    rw [dEq_int, e1, e2]
    unfold balB
    have : (((ts.filter fun t => t.1 == y).length : Int) == ((ts.filter fun t => t.2.1 == y).length : Int)) = ((ts.filter fun t => t.1 == y).length == (ts.filter fun t => t.2.1 == y).length) := by
      rw [Bool.eq_iff_iff]; simp; omega
    rw [this, Bool.true_xor]
  refine ⟨some (.d (.lst (((ts.map trD).filter (stT y)).map id))), some (.d (.lst (((ts.map trD).filter (goT y)).map id))), ?_⟩
  refine seq_run (set_run (comp_run (ds := ts.map trD) (T := stT y) (F := id) (p1 := q) rfl (fun d hd => ?_) (by rw [hl]; omega))) (seq_run (set_run (comp_run (ds := ts.map trD) (T := goT y) (F := id) (p1 := q) rfl (fun d hd => ?_) (by rw [hl]; omega))) ?_)
  · obtain ⟨t, _, rfl⟩ := mem_tr hd
    exact ⟨_, rfl, test_run (bn (x := .str t.1) (y := .str y) (p1 := q) (p2 := q) (by kernel_rfl) rfl (dEq_strs q)), fun _ => rfl⟩
  · obtain ⟨t, _, rfl⟩ := mem_tr hd
    exact ⟨_, rfl, test_run (bn (x := .str t.2.1) (y := .str y) (p1 := q) (p2 := q) (by kernel_rfl) rfl (dEq_strs q)), fun _ => rfl⟩
  · cases hb : balB ts y with
    | true =>
      rw [hb] at hd
      exact if_no (p1 := q) (test_run (bn (x := .int (((((ts.map trD).filter (stT y)).map id)).length : Int)) (y := .int (((((ts.map trD).filter (goT y)).map id)).length : Int)) (p1 := q) (p2 := q) rfl rfl hd)) rfl
    | false =>
      rw [hb] at hd
      exact if_yes (p1 := q) (test_run (bn (x := .int (((((ts.map trD).filter (stT y)).map id)).length : Int)) (y := .int (((((ts.map trD).filter (goT y)).map id)).length : Int)) (p1 := q) (p2 := q) rfl rfl hd)) (by kernel_rfl)
theorem bal_loop (h12 : ts.length ≤ 14) (q : Pn) : ∀ (ys : List Str) (b1 b2 b3 : Option Sl),
    ∃ c1 c2 c3, forGo (gN 1) balS (ys.map D.str) [some (.d (.tup (ts.map trD))), b1, b2, b3, none] q = match ys.find? fun y => !balB ts y with
      | none => some (.nx [some (.d (.tup (ts.map trD))), c1, c2, c3, none], q)
      | some y => some (.er 7 [.str y] [some (.d (.tup (ts.map trD))), c1, c2, c3, none], q)
  | [], b1, b2, b3 => ⟨b1, b2, b3, rfl⟩
  | y :: ys, b1, b2, b3 => by
    obtain ⟨c2, c3, e⟩ := bal_step h12 y b2 b3 q
    cases hb : balB ts y with
    | true =>
      rw [hb, if_pos rfl] at e
      obtain ⟨d1, d2, d3, e2⟩ := bal_loop h12 q ys (some (.d (.str y))) c2 c3
      refine ⟨d1, d2, d3, ?_⟩
      rw [List.find?_cons_of_neg (by simp [hb])]
      exact for_step rfl e e2
    | false =>
      rw [hb, if_neg (by decide)] at e
      refine ⟨some (.d (.str y)), c2, c3, ?_⟩
      rw [List.find?_cons_of_pos (by simp [hb])]
      exact for_er rfl e
theorem balance_run (h12 : ts.length ≤ 14) (q : Pn) : mneed_balance [.tup (ts.map trD)] q = some (match firstBad ts with | none => .ok .non | some y => .ex 7 [.str y], q) := by
  obtain ⟨c1, c2, c3, e⟩ := bal_loop h12 q (srtU (ysOf ts)) none none none
  have hy : (mCallK myards_of 1 0 [] [.p 0] (mCons (mVar 0) mNil) mNil) [some (.d (.tup (ts.map trD))), none, none, none, none] q = some (.ok (.tup ((srtU (ysOf ts)).map D.str)), q) := callK_run (xs := [.tup (ts.map trD)]) rfl rfl ⟨rfl, rfl⟩ (yards_run h12 q)
  unfold firstBad
  cases hf : (srtU (ysOf ts)).find? fun y => !balB ts y with
  | none =>
    rw [hf] at e
    exact fn_nx (δ := [some (.d (.tup (ts.map trD))), c1, c2, c3, none]) rfl (for_run (ds := (srtU (ysOf ts)).map D.str) (p1 := q) (iAny_t hy) e)
  | some y =>
    rw [hf] at e
    exact fn_er (δ' := [some (.d (.tup (ts.map trD))), c1, c2, c3, none]) rfl (for_run (ds := (srtU (ysOf ts)).map D.str) (p1 := q) (iAny_t hy) e)
/-- what Tour(*trips) gives -/
def tourOut (ts : List Trp) : Out (List D) := match tripsOut ts with
  | .ex c fs => .ex c fs
  | .ok _ => match firstBad ts with
    | some y => .ex 7 [.str y]
    | none => .ok [.tup (ts.map trD), .tup ((srtU (ysOf ts)).map D.str)]
theorem tour_run (h12 : ts.length ≤ 14) (q : Pn) : iTour [.tup (ts.map trD)] q = some (tourOut ts, q) := by
  have e1 := trips_run (ts := ts) h12
  have e2 := balance_run (ts := ts) h12
  have e3 := yards_run (ts := ts) h12
  unfold tourOut
  cases ht : tripsOut ts with
  | ex c fs =>
    rw [ht] at e1
    simp [mExcG, mNew, mMth, fnM, outOf, dsOf, sSeq, sRet, sIf, sSet, sBnd, sNx, sRaise, sPut, mTest, mTru, mNotT, mAndT, mOrT, mAndV, mOrV, mNotV, mBin, mUn, mCons, mNil, mCB, mCallK, mC, mVar, mTup, mLst, mIf, mChn, M.bnd, M.ret, M.opt, M.stuck, M.err, dB, dTru, pick, dCmpI, szOk, iTour, inM, inOf, bTour___init__, dsI, sExpr, e1]
  | ok d =>
    rw [ht] at e1
    cases hf : firstBad ts with
    | some y =>
      rw [hf] at e2
      simp [mExcG, mNew, mMth, fnM, outOf, dsOf, sSeq, sRet, sIf, sSet, sBnd, sNx, sRaise, sPut, mTest, mTru, mNotT, mAndT, mOrT, mAndV, mOrV, mNotV, mBin, mUn, mCons, mNil, mCB, mCallK, mC, mVar, mTup, mLst, mIf, mChn, M.bnd, M.ret, M.opt, M.stuck, M.err, dB, dTru, pick, dCmpI, szOk, iTour, inM, inOf, bTour___init__, dsI, sExpr, e1, e2]
    | none =>
      rw [hf] at e2
      simp [mExcG, mNew, mMth, fnM, outOf, dsOf, sSeq, sRet, sIf, sSet, sBnd, sNx, sRaise, sPut, mTest, mTru, mNotT, mAndT, mOrT, mAndV, mOrV, mNotV, mBin, mUn, mCons, mNil, mCB, mCallK, mC, mVar, mTup, mLst, mIf, mChn, M.bnd, M.ret, M.opt, M.stuck, M.err, dB, dTru, pick, dCmpI, szOk, iTour, inM, inOf, bTour___init__, dsI, sExpr, e1, e2, e3]
def tourD (ts : List Trp) : D := .obj 10 [.tup (ts.map trD), .tup ((srtU (ysOf ts)).map D.str)]
/-- what C(*trips) answers -/
def mkOut (ts : List Trp) : Out D := match tourOut ts with
  | .ok _ => .ok (tourD ts)
  | .ex c fs => .ex c fs
theorem mk_run (h12 : ts.length ≤ 14) (q : Pn) : ((iTour [.tup (ts.map trD)]).bnd fun fs => M.ret (D.obj 10 fs)) q = some (mkOut ts, q) := by
  unfold M.bnd
  rw [tour_run h12]
  unfold mkOut
  cases h : tourOut ts with
  | ex c fs => rfl
  | ok fs =>
    have : fs = [.tup (ts.map trD), .tup ((srtU (ysOf ts)).map D.str)] := by
      unfold tourOut at h
      split at h
      · cases h
      · split at h
        · cases h
        · cases h; rfl
    rw [this]
    rfl
end
end Lw

namespace Lw
open PySem ME
/-! ### numbers as texts -/
def num (k : Nat) : Str := Str.ofString (toString (k : Int))
theorem cnt_num : ∀ k : Nat, k < 100 → ∀ q : Pn, mcount_in [.str (num k), .int 2] q = some (.ok (.int k), q)
  | 0, _, q => by kernel_rfl
  | 1, _, q => by kernel_rfl
  | 2, _, q => by kernel_rfl
  | 3, _, q => by kernel_rfl
  | 4, _, q => by kernel_rfl
  | 5, _, q => by kernel_rfl
  | 6, _, q => by kernel_rfl
  | 7, _, q => by kernel_rfl
  | 8, _, q => by kernel_rfl
  | 9, _, q => by kernel_rfl
  | 10, _, q => by kernel_rfl
  | 11, _, q => by kernel_rfl
  | 12, _, q => by kernel_rfl
  | 13, _, q => by kernel_rfl
  | 14, _, q => by kernel_rfl
  | 15, _, q => by kernel_rfl
  | 16, _, q => by kernel_rfl
  | 17, _, q => by kernel_rfl
  | 18, _, q => by kernel_rfl
  | 19, _, q => by kernel_rfl
  | 20, _, q => by kernel_rfl
  | 21, _, q => by kernel_rfl
  | 22, _, q => by kernel_rfl
  | 23, _, q => by kernel_rfl
  | 24, _, q => by kernel_rfl
  | 25, _, q => by kernel_rfl
  | 26, _, q => by kernel_rfl
  | 27, _, q => by kernel_rfl
  | 28, _, q => by kernel_rfl
  | 29, _, q => by kernel_rfl
  | 30, _, q => by kernel_rfl
  | 31, _, q => by kernel_rfl
  | 32, _, q => by kernel_rfl
  | 33, _, q => by kernel_rfl
  | 34, _, q => by kernel_rfl
  | 35, _, q => by kernel_rfl
  | 36, _, q => by kernel_rfl
  | 37, _, q => by kernel_rfl
  | 38, _, q => by kernel_rfl
  | 39, _, q => by kernel_rfl
  | 40, _, q => by kernel_rfl
  | 41, _, q => by kernel_rfl
  | 42, _, q => by kernel_rfl
  | 43, _, q => by kernel_rfl
  | 44, _, q => by kernel_rfl
  | 45, _, q => by kernel_rfl
  | 46, _, q => by kernel_rfl
  | 47, _, q => by kernel_rfl
  | 48, _, q => by kernel_rfl
  | 49, _, q => by kernel_rfl
  | 50, _, q => by kernel_rfl
  | 51, _, q => by kernel_rfl
  | 52, _, q => by kernel_rfl
  | 53, _, q => by kernel_rfl
  | 54, _, q => by kernel_rfl
  | 55, _, q => by kernel_rfl
  | 56, _, q => by kernel_rfl
  | 57, _, q => by kernel_rfl
  | 58, _, q => by kernel_rfl
  | 59, _, q => by kernel_rfl
  | 60, _, q => by kernel_rfl
  | 61, _, q => by kernel_rfl
  | 62, _, q => by kernel_rfl
  | 63, _, q => by kernel_rfl
  | 64, _, q => by kernel_rfl
  | 65, _, q => by kernel_rfl
  | 66, _, q => by kernel_rfl
  | 67, _, q => by kernel_rfl
  | 68, _, q => by kernel_rfl
  | 69, _, q => by kernel_rfl
  | 70, _, q => by kernel_rfl
  | 71, _, q => by kernel_rfl
  | 72, _, q => by kernel_rfl
  | 73, _, q => by kernel_rfl
  | 74, _, q => by kernel_rfl
  | 75, _, q => by kernel_rfl
  | 76, _, q => by kernel_rfl
  | 77, _, q => by kernel_rfl
  | 78, _, q => by kernel_rfl
  | 79, _, q => by kernel_rfl
  | 80, _, q => by kernel_rfl
  | 81, _, q => by kernel_rfl
  | 82, _, q => by kernel_rfl
  | 83, _, q => by kernel_rfl
  | 84, _, q => by kernel_rfl
  | 85, _, q => by kernel_rfl
  | 86, _, q => by kernel_rfl
  | 87, _, q => by kernel_rfl
  | 88, _, q => by kernel_rfl
  | 89, _, q => by kernel_rfl
  | 90, _, q => by kernel_rfl
  | 91, _, q => by kernel_rfl
  | 92, _, q => by kernel_rfl
  | 93, _, q => by kernel_rfl
  | 94, _, q => by kernel_rfl
  | 95, _, q => by kernel_rfl
  | 96, _, q => by kernel_rfl
  | 97, _, q => by kernel_rfl
  | 98, _, q => by kernel_rfl
  | 99, _, q => by kernel_rfl
  | n + 100, h, _ => absurd h (by omega)
theorem price_run {w : Str} {d : D} {q : Pn} (h : mcount_in [.str w, .int 2] q = some (.ok d, q)) : mprice_told [.str w] q = some (.ok d, q) :=
  fn_ret rfl (ret_run (callK_run (xs := [.str w, .int 2]) rfl rfl ⟨rfl, rfl⟩ h))
theorem num_len : ∀ k : Nat, k < 100 → (num k).length ≤ 2 := by decide +kernel
theorem num_free : ∀ k : Nat, k < 100 → 32 ∉ (num k).cps.toList := by decide +kernel
theorem log_lt : ∀ k : Nat, k < 100 → (decide ((k : Int).natAbs.log2 < 1920)) = true := by decide +kernel
theorem str_int {k : Nat} (h : k < 100) (q : Pn) : dStr1 [.int k] q = some (.ok (.str (num k)), q) := by
  show (if decide ((k : Int).natAbs.log2 < 1920) then M.ret (D.str (toString (k : Int))) else M.stuck) q = _
  rw [log_lt k h]
  rfl
theorem cut_num : ∀ k : Nat, k < 100 → L2.cutS (num k ++ ",") (some (-1)) none = "," ∧ L2.cutS (num k ++ ",") none (some (-1)) = num k := by decide +kernel
theorem add_str {x y : Str} (h : x.length + y.length ≤ 10000) (q : Pn) : dAdd (.str x) (.str y) q = some (.ok (.str (x ++ y)), q) := by
  show (if szOk (x.length + y.length) then M.ret (D.str (x ++ y)) else M.stuck) q = _
  unfold szOk
  rw [if_pos (by simpa using (show x.length + y.length ≤ 16777216 by omega))]
  rfl
theorem sl_run {z : Str} {lo hi : Option Int} (h : z.length ≤ 10000) (q : Pn) : dSlA (.str z) lo hi q = some (.ok (.str (L2.cutS z lo hi)), q) := by
  show (if szOk z.length = true then M.ret (D.str (L2.cutS z lo hi)) else M.stuck) q = _
  unfold szOk
  rw [if_pos (by simpa using (show z.length ≤ 16777216 by omega))]
  rfl
theorem sm_run {f : Str → List D → M D} {eo : EX} {ra : AX} {δ : DS} {a : Str} {xs : List D} {p p1 p2 : Pn} {r : Option (Out D × Pn)} (h1 : eo δ p = some (.ok (.str a), p1)) (h2 : ra δ p1 = some (.ok xs, p2)) (h3 : f a xs p2 = r) : mSM f eo ra δ p = r := by
  unfold mSM M.bnd
  rw [h1]
  dsimp only
  rw [h2]
  exact h3
theorem ret_er {e : EX} {δ : DS} {c : Nat} {fs : List D} {p p' : Pn} (h : e δ p = some (.ex c fs, p')) : sRet e δ p = some (.er c fs δ, p') := by
  unfold sRet sBnd
  rw [h]
theorem newV_run {i c : Nat} {e : EX} {δ : DS} {p : Pn} {r : Option (Out D × Pn)} (h : δ[i]? = some (some (.d (.cls c)))) (h2 : e δ p = r) : mNewV i c e δ p = r := by
  unfold mNewV
  rw [h]
  dsimp only
  rw [if_pos rfl]
  exact h2
/-! ### the words of a row -/
def nn (t : Trp) : Nat := t.2.2.toNat
def ends (t : Trp) : Str := (t.1 ++ ">") ++ t.2.1
def told (t : Trp) : Str := (ends t ++ " ") ++ num (nn t)
def wl : List Trp → List Str
  | [] => []
  | [t] => [ends t, num (nn t)]
  | t :: u :: r => ends t :: (num (nn t) ++ ",") :: wl (u :: r)
def wc : List Trp → List Str
  | [] => []
  | t :: r => ends t :: (num (nn t) ++ ",") :: wc r
theorem nn_lt {t : Trp} (h : TOk t) : nn t < 100 ∧ t.2.2 = (nn t : Int) := by
  have h0 := h.lo
  have h1 := h.hi
  unfold nn
  exact ⟨by omega, by omega⟩
theorem wl_cons (t : Trp) : ∀ r : List Trp, r ≠ [] → wl (t :: r) = ends t :: (num (nn t) ++ ",") :: wl r
  | [], h => absurd rfl h
  | u :: r, _ => rfl
theorem wl_ne : ∀ l : List Trp, l ≠ [] → wl l ≠ []
  | [], h => absurd rfl h
  | [t], _ => by simp [wl]
  | t :: u :: r, _ => by simp [wl]
theorem wl_app : ∀ (a b : List Trp), b ≠ [] → wl (a ++ b) = wc a ++ wl b
  | [], b, _ => rfl
  | t :: a, b, h => by
    show wl (t :: (a ++ b)) = _
    rw [wl_cons t (a ++ b) (by simp [h]), wl_app a b h]
    rfl
theorem wc_len : ∀ a : List Trp, (wc a).length = 2 * a.length
  | [] => rfl
  | t :: a => by
    show (wc a).length + 1 + 1 = _
    rw [wc_len a, List.length_cons]
    omega
theorem wl_len : ∀ a : List Trp, (wl a).length = 2 * a.length
  | [] => rfl
  | [t] => rfl
  | t :: u :: r => by
    show (wl (u :: r)).length + 1 + 1 = _
    rw [wl_len (u :: r)]
    simp only [List.length_cons]
    omega
theorem join_told : ∀ ts : List Trp, Str.join ", " (ts.map told) = Str.join " " (wl ts)
  | [] => rfl
  | [t] => rfl
  | t :: u :: r => by
    have e : TL.tl (", " : Str) = TL.tl ("," : Str) ++ TL.tl (" " : Str) := by decide +kernel
    have ih := join_told (u :: r)
    obtain ⟨w0, ws, hw⟩ : ∃ w0 ws, wl (u :: r) = w0 :: ws := by
      cases h : wl (u :: r) with
      | nil => exact absurd h (wl_ne _ (by simp))
      | cons a b => exact ⟨a, b, rfl⟩
    show told t ++ ", " ++ Str.join ", " ((u :: r).map told) = Str.join " " (ends t :: (num (nn t) ++ ",") :: wl (u :: r))
    rw [ih, hw]
    show told t ++ ", " ++ Str.join " " (w0 :: ws) = ends t ++ " " ++ ((num (nn t) ++ ",") ++ " " ++ Str.join " " (w0 :: ws))
    unfold told
    apply TL.ext_tl
    simp only [TL.tl_append, e, List.append_assoc]
theorem nm_free {x : Str} (h : Nm x) {k : Nat} (hk : k < 97) : k ∉ TL.tl x := fun hm => by
  have := h.c k hm
  omega
theorem ends_free {t : Trp} (h : TOk t) : 32 ∉ TL.tl (ends t) := by
  unfold ends
  have e : TL.tl (">" : Str) = [62] := by decide +kernel
  rw [TL.tl_append, TL.tl_append, e]
  simp only [List.mem_append, List.mem_singleton]
  rintro ((h1 | h1) | h1)
  · exact nm_free h.s (by decide) h1
  · exact absurd h1 (by decide)
  · exact nm_free h.g (by decide) h1
theorem comma_free {k : Nat} (h : k < 100) : 32 ∉ TL.tl (num k ++ ",") := by
  have e : TL.tl ("," : Str) = [44] := by decide +kernel
  rw [TL.tl_append, e]
  simp only [List.mem_append, List.mem_singleton]
  rintro (h1 | h1)
  · exact num_free k h h1
  · exact absurd h1 (by decide)
theorem wl_free : ∀ ts : List Trp, (∀ t ∈ ts, TOk t) → ∀ p ∈ wl ts, 32 ∉ TL.tl p
  | [], _, p, hp => by simp [wl] at hp
  | [t], h, p, hp => by
    have ht := h t (by simp)
    simp only [wl, List.mem_cons, List.not_mem_nil, or_false] at hp
    rcases hp with rfl | rfl
    · exact ends_free ht
    · exact num_free _ (nn_lt ht).1
  | t :: u :: r, h, p, hp => by
    have ht := h t (by simp)
    simp only [wl, List.mem_cons] at hp
    rcases hp with rfl | rfl | hp
    · exact ends_free ht
    · exact comma_free (nn_lt ht).1
    · exact wl_free (u :: r) (fun x hx => h x (List.mem_cons_of_mem _ hx)) p (by simpa [wl] using hp)
theorem told_split {ts : List Trp} (h : ∀ t ∈ ts, TOk t) (hn : ts ≠ []) : Txt.split (Txt.join ", " (ts.map told)) " " = wl ts := by
  rw [TL.join_eq, join_told, ← TL.join_eq]
  exact TL.split_join (y := " ") (s := 32) (S := []) (by decide +kernel) (by decide +kernel) (wl_ne ts hn) (wl_free ts h)
theorem ends_len {t : Trp} (h : TOk t) : (ends t).length ≤ 17 := by
  unfold ends
  have l1 : (">" : Str).length = 1 := by decide
  have := h.s.l
  have := h.g.l
  simp only [PySem.Str.length_append]
  omega
theorem told_len {t : Trp} (h : TOk t) : (told t).length ≤ 20 := by
  unfold told
  have l1 : (" " : Str).length = 1 := by decide
  have := ends_len h
  have := num_len _ (nn_lt h).1
  simp only [PySem.Str.length_append]
  omega
theorem join_len : ∀ ts : List Trp, (∀ t ∈ ts, TOk t) → (Str.join ", " (ts.map told)).length ≤ 22 * ts.length
  | [], _ => by simp [Str.join]; rfl
  | [t], h => by
    have := told_len (h t (by simp))
    show (told t).length ≤ _
    simp
    omega
  | t :: u :: r, h => by
    have := told_len (h t (by simp))
    have ih := join_len (u :: r) fun x hx => h x (List.mem_cons_of_mem _ hx)
    have l1 : (", " : Str).length = 2 := by decide
    show (told t ++ ", " ++ Str.join ", " ((u :: r).map told)).length ≤ _
    simp only [PySem.Str.length_append, List.length_cons] at ih ⊢
    omega
theorem sum_len : ∀ ts : List Trp, (∀ t ∈ ts, TOk t) → ((ts.map told).map (·.length)).sum ≤ 20 * ts.length
  | [], _ => by simp
  | t :: r, h => by
    have := told_len (h t (by simp))
    have ih := sum_len r fun x hx => h x (List.mem_cons_of_mem _ hx)
    simp only [List.map_cons, List.sum_cons, List.length_cons]
    omega
theorem words_run {ts : List Trp} (h : ∀ t ∈ ts, TOk t) (hl : ts.length ≤ 1000) (q : Pn) : m_law_words [.lst (ts.map rowT)] q = some (.ok (.str (Txt.join ", " (ts.map told))), q) := by
  have hc : (mComp (iAny itL (mVar 0)) (gT (gs1 (gN 1) (gs1 (gN 2) (gs1 (gN 3) gs0)))) mYes (mBin dAdd (mBin dAdd (mBin dAdd (mBin dAdd (mVar 1) (mC (.str ">"))) (mVar 2)) (mC (.str " "))) (mCB dStr1 (mCons (mVar 3) mNil))) [1, 2, 3]) [some (.d (.lst (ts.map rowT))), none, none, none] q = some (.ok (.lst (ts.map fun t => D.str (told t))), q) := by
    refine comp_all (xs := ts) (a := rowT) (p1 := q) rfl (fun t ht => ⟨_, rfl, ?_⟩) (by omega)
    have ok := h t ht
    have l1 : (">" : Str).length = 1 := by decide
    have l2 : (" " : Str).length = 1 := by decide
    have l3 := num_len _ (nn_lt ok).1
    have l4 := ok.s.l
    have l5 := ok.g.l
    refine bn (x := .str (ends t ++ " ")) (y := .str (num (nn t))) (p1 := q) (p2 := q) (bn (x := .str (ends t)) (y := .str " ") (p1 := q) (p2 := q) (bn (x := .str (t.1 ++ ">")) (y := .str t.2.1) (p1 := q) (p2 := q) (bn (x := .str t.1) (y := .str ">") (p1 := q) (p2 := q) rfl rfl (add_str (by omega) q)) rfl (add_str (by simp only [PySem.Str.length_append]; omega) q)) rfl (add_str (by have := ends_len ok; omega) q)) (cb_run (xs := [.int t.2.2]) (p1 := q) rfl ?_) (add_str (by have := ends_len ok; simp only [PySem.Str.length_append]; omega) q)
    rw [(nn_lt ok).2]
    exact str_int (nn_lt ok).1 q
  have hs : strsOf (ts.map fun t => D.str (told t)) = some (ts.map told) := by
    have := strs_map (ts.map told)
    rw [List.map_map] at this
    exact this
  refine fn_ret rfl (ret_run ?_)
  refine sm_run (a := ", ") (p1 := q) rfl (cons_run hc (r := mNil) (p2 := q) (xs := []) rfl) ?_
  dsimp only [dJoin]
  rw [hs]
  dsimp only
  rw [if_pos]
  · rfl
  · have := sum_len ts h
    have l1 : (", " : Str).length = 2 := by decide
    rw [decide_eq_true_eq, List.length_map, l1]
    omega
/-! ### a row read -/
theorem ends_run {t : Trp} (h : TOk t) (q : Pn) : mends_told [.str (ends t)] q = some (.ok (.tup [.str t.1, .str t.2.1]), q) := by
  have ey : TL.tl (">" : Str) = 62 :: [] := by decide +kernel
  have hp : Txt.partition (ends t) ">" = (t.1, (">" : Str), t.2.1) := TL.partition_app ey (nm_free h.s (by decide))
  have hl := ends_len h
  have hd : ∀ q, dPart (ends t) [.str ">"] q = some (.ok (.tup [.str t.1, .str ">", .str t.2.1]), q) := fun q => by
    show (if (((">" : Str).length != 0) && decide ((ends t).length ≤ 16777216)) = true then M.ret (D.tup [.str (Txt.partition (ends t) ">").1, .str (Txt.partition (ends t) ">").2.1, .str (Txt.partition (ends t) ">").2.2]) else M.stuck) q = _
    rw [if_pos (by rw [decide_eq_true (show (ends t).length ≤ 16777216 by omega)]; decide), hp]
    rfl
  have hn : (t.1 == t.2.1) = false := by simpa using h.ne
  simp [mExcG, mNew, mMth, fnM, outOf, dsOf, sSeq, sRet, sIf, sSet, sBnd, sNx, sRaise, sPut, mTest, mTru, mNotT, mAndT, mOrT, mAndV, mOrV, mNotV, mBin, mUn, mCons, mNil, mCB, mCallK, mC, mVar, mTup, mLst, mIf, mChn, M.bnd, M.ret, M.opt, M.stuck, M.err, dB, dTru, pick, dCmpI, szOk, mends_told, bends_told, sUnp, gT, gs1, gs0, gN, mSM, hd, h.s.n, h.g.n, dNe_strs, hn]
theorem price_last {ws : List D} {n k : Nat} (hk : k < 100) (h : ws[n]? = some (.str (num k))) (hl : ws.length = n + 1) (q : Pn) : mprice_at [.lst ws, .int n] q = some (.ok (.int k), q) := by
  refine fn_ret rfl (seq_run (set_run (d := .str (num k)) (p' := q) (bn (x := .lst ws) (y := .int n) (p1 := q) (p2 := q) rfl rfl (ix_run (L2.atI_nat h)))) (seq_ret (if_yes (p1 := q) (test_run (bn (x := .int n) (y := .int ((ws.length : Int) - 1)) (p1 := q) (p2 := q) rfl rfl ?_)) (ret_run (callK_run (xs := [.str (num k)]) (p1 := q) (p2 := q) rfl rfl ⟨rfl, rfl⟩ (price_run (cnt_num k hk q)))))))
  rw [dEq_int, hl]
  have : ((n : Int) == ((n + 1 : Nat) : Int) - 1) = true := by rw [beq_iff_eq]; omega
  rw [this]; rfl
theorem price_mid {ws : List D} {n k : Nat} (hk : k < 100) (h : ws[n]? = some (.str (num k ++ ","))) (hl : n + 1 < ws.length) (q : Pn) : mprice_at [.lst ws, .int n] q = some (.ok (.int k), q) := by
  have hz : (num k ++ ",").length ≤ 10000 := by
    have := num_len k hk
    have l1 : ("," : Str).length = 1 := by decide
    rw [PySem.Str.length_append]
    omega
  have c := cut_num k hk
  have s1 : ∀ (a b : Option Sl) q, (mSlA (mVar 2) (some (mUn dNeg (mC (.int 1)))) none) [a, b, some (.d (.str (num k ++ ",")))] q = some (.ok (.str ","), q) := fun a b q => by
    have := sl_run (lo := some (-1)) (hi := none) hz q
    rw [c.1] at this
    exact this
  have s2 : ∀ (a b : Option Sl) q, (mSlA (mVar 2) none (some (mUn dNeg (mC (.int 1))))) [a, b, some (.d (.str (num k ++ ",")))] q = some (.ok (.str (num k)), q) := fun a b q => by
    have := sl_run (lo := none) (hi := some (-1)) hz q
    rw [c.2] at this
    exact this
  refine fn_ret rfl (seq_run (set_run (d := .str (num k ++ ",")) (p' := q) (bn (x := .lst ws) (y := .int n) (p1 := q) (p2 := q) rfl rfl (ix_run (L2.atI_nat h)))) (seq_run (if_no (p1 := q) (test_run (bn (x := .int n) (y := .int ((ws.length : Int) - 1)) (p1 := q) (p2 := q) rfl rfl ?_)) rfl) (ret_run (mif_yes (p1 := q) (test_run (bn (x := .str ",") (y := .str ",") (p1 := q) (p2 := q) (s1 _ _ q) rfl (by kernel_rfl))) (callK_run (xs := [.str (num k)]) (p1 := q) (p2 := q) (cons_run (s2 _ _ q) rfl) rfl ⟨rfl, rfl⟩ (price_run (cnt_num k hk q)))))))
  rw [dEq_int]
  have : ((n : Int) == (ws.length : Int) - 1) = false := by rw [beq_eq_false_iff_ne]; omega
  rw [this]; rfl
def inG : GX := gT (gs1 (gN 2) (gs1 (gN 3) gs0))
def inS : SX := (sIf (mTest (mBin (dEq false) (mBin dMod (mVar 2) (mC (.int 2))) (mC (.int 0)))) (sIf (mOrT (mTest (mBin (dCmpI fun i j => decide (j ≤ i)) (mVar 2) (mBin dMulT (mC (.int 2)) (mC (.int 12))))) (mTest (mBin (dIsN false) (mCallK mends_told 1 0 [] [.p 0] (mCons (mVar 3) mNil) mNil) (mC .non)))) (sRaise 5 2 0 [] [.p 0, .p 1] 2 (mCons (mC (.int 0)) (mCons (mVar 2) mNil)) mNil) sNx) (sSeq (sSet 4 (mCallK mprice_at 2 0 [] [.p 0, .p 1] (mCons (mVar 0) (mCons (mVar 2) mNil)) mNil)) (sSeq (sIf (mTest (mBin (dIsN false) (mVar 4) (mC .non))) (sRaise 5 2 0 [] [.p 0, .p 1] 2 (mCons (mC (.int 0)) (mCons (mVar 2) mNil)) mNil) sNx) (sSeq (sUnp (gT (gs1 (gN 5) (gs1 (gN 6) gs0))) (mCallK mends_told 1 0 [] [.p 0] (mCons (mBin dIx (mVar 0) (mBin dSub (mVar 2) (mC (.int 1)))) mNil) mNil)) (sApp 1 (mNew 9 iTrip 3 0 [.int 1] [.p 0, .p 1, .p 2] (mCons (mVar 5) (mCons (mVar 6) (mCons (mVar 4) mNil))) mNil))))))
theorem even_run {t : Trp} (h : TOk t) {n : Nat} (hn : n < 12) (W a1 b4 b5 b6 : Option Sl) (q : Pn) : inS [W, a1, some (.d (.int ((2 * n : Nat) : Int))), some (.d (.str (ends t))), b4, b5, b6] q = some (.nx [W, a1, some (.d (.int ((2 * n : Nat) : Int))), some (.d (.str (ends t))), b4, b5, b6], q) := by
  refine if_yes (p1 := q) (test_run (bn (x := .int (((2 * n : Nat) : Int) % 2)) (y := .int 0) (p1 := q) (p2 := q) (bn (x := .int ((2 * n : Nat) : Int)) (y := .int 2) (p1 := q) (p2 := q) rfl rfl rfl) rfl ?_)) (if_no (p1 := q) (orT_ff (p1 := q) (p2 := q) (test_run (bn (x := .int ((2 * n : Nat) : Int)) (y := .int 24) (p1 := q) (p2 := q) rfl (by kernel_rfl) ?_)) (test_run (bn (x := .tup [.str t.1, .str t.2.1]) (y := .non) (p1 := q) (p2 := q) (callK_run (xs := [.str (ends t)]) (p1 := q) (p2 := q) rfl rfl ⟨rfl, rfl⟩ (ends_run h q)) rfl rfl))) rfl)
  · rw [dEq_int]
    have : (((2 * n : Nat) : Int) % 2 == 0) = true := by rw [beq_iff_eq]; omega
    rw [this]; rfl
  · rw [cmp_ge, decide_eq_false (by omega)]
theorem odd_run {t : Trp} (h : TOk t) {n : Nat} {W fs : List D} (hf : fs.length < 100) (hw : W[2 * n]? = some (.str (ends t))) (hp : ∀ q, mprice_at [.lst W, .int ((2 * n + 1 : Nat) : Int)] q = some (.ok (.int t.2.2), q)) (x : D) (b4 b5 b6 : Option Sl) (q : Pn) :
    inS [some (.d (.lst W)), some (.ml fs), some (.d (.int ((2 * n + 1 : Nat) : Int))), some (.d x), b4, b5, b6] q = some (.nx [some (.d (.lst W)), some (.ml (fs ++ [trD t])), some (.d (.int ((2 * n + 1 : Nat) : Int))), some (.d x), some (.d (.int t.2.2)), some (.d (.str t.1)), some (.d (.str t.2.1))], q) := by
  refine if_no (p1 := q) (test_run (bn (x := .int (((2 * n + 1 : Nat) : Int) % 2)) (y := .int 0) (p1 := q) (p2 := q) (bn (x := .int ((2 * n + 1 : Nat) : Int)) (y := .int 2) (p1 := q) (p2 := q) rfl rfl rfl) rfl ?_)) (seq_run (set_run (callK_run (xs := [.lst W, .int ((2 * n + 1 : Nat) : Int)]) (p1 := q) (p2 := q) rfl rfl ⟨rfl, rfl⟩ (hp q))) (seq_run (if_no (p1 := q) (test_run (bn (x := .int t.2.2) (y := .non) (p1 := q) (p2 := q) rfl rfl rfl)) rfl) (seq_run (unp_run (callK_run (xs := [.str (ends t)]) (p1 := q) (p2 := q) (cons_run (p1 := q) (bn (x := .lst W) (y := .int ((2 * n : Nat) : Int)) (p1 := q) (p2 := q) rfl (bn (x := .int ((2 * n + 1 : Nat) : Int)) (y := .int 1) (p1 := q) (p2 := q) rfl rfl ?_) (ix_run (L2.atI_nat hw))) rfl) rfl ⟨rfl, rfl⟩ (ends_run h q)) rfl) ?_)))
  · rw [dEq_int]
    have : (((2 * n + 1 : Nat) : Int) % 2 == 0) = false := by rw [beq_eq_false_iff_ne]; omega
    rw [this]; rfl
  · show M.ret (D.int (((2 * n + 1 : Nat) : Int) - 1)) q = _
    have : ((2 * n + 1 : Nat) : Int) - 1 = ((2 * n : Nat) : Int) := by omega
    rw [this]; rfl
  · refine app_run (xs := fs) (d := trD t) rfl ?_ (by rw [decide_eq_true_eq]; omega)
    simp [mExcG, mNew, mMth, fnM, outOf, dsOf, sSeq, sRet, sIf, sSet, sBnd, sNx, sRaise, sPut, mTest, mTru, mNotT, mAndT, mOrT, mAndV, mOrV, mNotV, mBin, mUn, mCons, mNil, mCB, mCallK, mC, mVar, mTup, mLst, mIf, mChn, M.bnd, M.ret, M.opt, M.stuck, M.err, dB, dTru, pick, dCmpI, szOk, init_ok h, trD]
theorem in_loop {ts : List Trp} (h : ∀ t ∈ ts, TOk t) (h12 : ts.length ≤ 12) (q : Pn) : ∀ (suf pre : List Trp), pre ++ suf = ts → ∀ (b2 b3 b4 b5 b6 : Option Sl), ∃ c2 c3 c4 c5 c6,
    forGo inG inS (enumD (2 * pre.length) ((wl suf).map D.str)) [some (.d (.lst ((wl ts).map D.str))), some (.ml (pre.map trD)), b2, b3, b4, b5, b6] q = some (.nx [some (.d (.lst ((wl ts).map D.str))), some (.ml (ts.map trD)), c2, c3, c4, c5, c6], q)
  | [], pre, hp, b2, b3, b4, b5, b6 => by
    rw [List.append_nil] at hp
    subst hp
    exact ⟨b2, b3, b4, b5, b6, rfl⟩
  | t :: suf, pre, hp, b2, b3, b4, b5, b6 => by
    have ht : TOk t := h t (by rw [← hp]; simp)
    have hlen : pre.length + (suf.length + 1) = ts.length := by rw [← hp]; simp
    have hnn := nn_lt ht
    have hW : wl ts = wc pre ++ wl (t :: suf) := by rw [← hp]; exact wl_app pre (t :: suf) (by simp)
    obtain ⟨w1, rest, hw⟩ : ∃ w1 rest, wl (t :: suf) = ends t :: w1 :: rest ∧ rest = wl suf ∧ ((suf = [] ∧ w1 = num (nn t)) ∨ (suf ≠ [] ∧ w1 = num (nn t) ++ ",")) := by
      cases suf with
      | nil => exact ⟨_, _, rfl, rfl, .inl ⟨rfl, rfl⟩⟩
      | cons u r => exact ⟨_, _, rfl, rfl, .inr ⟨by simp, rfl⟩⟩
    obtain ⟨hw0, hrest, hk⟩ := hw
    have g0 : ((wl ts).map D.str)[2 * pre.length]? = some (.str (ends t)) := by
      rw [List.getElem?_map, hW, List.getElem?_append_right (by rw [wc_len]; omega), wc_len, Nat.sub_self, hw0]
      rfl
    have g1 : ((wl ts).map D.str)[2 * pre.length + 1]? = some (.str w1) := by
      rw [List.getElem?_map, hW, List.getElem?_append_right (by rw [wc_len]; omega), wc_len, Nat.add_sub_cancel_left, hw0]
      rfl
    have hl : ((wl ts).map D.str).length = 2 * ts.length := by rw [List.length_map, wl_len]
    have hp1 : ∀ q, mprice_at [.lst ((wl ts).map D.str), .int ((2 * pre.length + 1 : Nat) : Int)] q = some (.ok (.int t.2.2), q) := fun q => by
      rw [hnn.2]
      rcases hk with ⟨rfl, rfl⟩ | ⟨hs, rfl⟩
      · refine price_last hnn.1 g1 ?_ q
        rw [hl]; simp at hlen; omega
      · refine price_mid hnn.1 g1 ?_ q
        have : suf.length ≠ 0 := fun z => hs (List.length_eq_zero_iff.mp z)
        rw [hl]; omega
    have s1 := even_run (n := pre.length) ht (by omega) (some (.d (.lst ((wl ts).map D.str)))) (some (.ml (pre.map trD))) b4 b5 b6 q
    have s2 := odd_run (n := pre.length) (fs := pre.map trD) ht (by rw [List.length_map]; omega) g0 hp1 (.str w1) b4 b5 b6 q
    obtain ⟨c2, c3, c4, c5, c6, e⟩ := in_loop h h12 q suf (pre ++ [t]) (by rw [← hp]; simp) (some (.d (.int ((2 * pre.length + 1 : Nat) : Int)))) (some (.d (.str w1))) (some (.d (.int t.2.2))) (some (.d (.str t.1))) (some (.d (.str t.2.1)))
    refine ⟨c2, c3, c4, c5, c6, ?_⟩
    rw [hw0]
    refine for_step (d := .tup [.int ((2 * pre.length : Nat) : Int), .str (ends t)]) rfl s1 (for_step (d := .tup [.int ((2 * pre.length + 1 : Nat) : Int), .str w1]) rfl s2 ?_)
    rw [hrest]
    have e1 : (pre ++ [t]).map trD = pre.map trD ++ [trD t] := by rw [List.map_append]; rfl
    have e2 : 2 * (pre ++ [t]).length = 2 * pre.length + 1 + 1 := by rw [List.length_append, List.length_singleton]; omega
    rw [e1, e2] at e
    exact e
theorem in_run {ts : List Trp} (h : ∀ t ∈ ts, TOk t) (hn : ts ≠ []) (h12 : ts.length ≤ 12) (q : Pn) : mtrips_in [.lst ((wl ts).map D.str)] q = some (.ok (.lst (ts.map trD)), q) := by
  obtain ⟨c2, c3, c4, c5, c6, e⟩ := in_loop h h12 q ts [] rfl none none none none none
  have hl : ((wl ts).map D.str).length = 2 * ts.length := by rw [List.length_map, wl_len]
  have h0 : ts.length ≠ 0 := fun z => hn (List.length_eq_zero_iff.mp z)
  refine fn_ret rfl (seq_run (newL_run (ds := []) (p1 := q) rfl rfl) (seq_run (for_run (ds := enumD 0 ((wl ts).map D.str)) (p1 := q) rfl e) (seq_run (if_no (p1 := q) (orT_ff (p1 := q) (p2 := q) (test_run (bn (x := .int (((wl ts).map D.str).length : Int)) (y := .int 0) (p1 := q) (p2 := q) rfl rfl ?_)) (test_run (bn (x := .int ((((wl ts).map D.str).length : Int) % 2)) (y := .int 1) (p1 := q) (p2 := q) (bn (x := .int (((wl ts).map D.str).length : Int)) (y := .int 2) (p1 := q) (p2 := q) rfl rfl rfl) rfl ?_))) rfl) (frz_run (xs := ts.map trD) rfl (ret_run rfl)))))
  · rw [dEq_int, hl]
    have : (((2 * ts.length : Nat) : Int) == 0) = false := by rw [beq_eq_false_iff_ne]; omega
    rw [this]; rfl
  · rw [dEq_int, hl]
    have : (((2 * ts.length : Nat) : Int) % 2 == 1) = false := by rw [beq_eq_false_iff_ne]; omega
    rw [this]; rfl
theorem read_run {ts : List Trp} (h : ∀ t ∈ ts, TOk t) (hn : ts ≠ []) (h12 : ts.length ≤ 12) (q : Pn) : mTour_read [.cls 10, .str (Txt.join ", " (ts.map told))] q = some (mkOut ts, q) := by
  have hs : dSplit (Txt.join ", " (ts.map told)) [.str " "] q = some (.ok (.lst ((wl ts).map D.str)), q) := by
    show (if (((" " : Str).length != 0) && decide ((Txt.join ", " (ts.map told)).length + 2 ≤ 16777216)) = true then M.ret (D.lst ((Txt.split (Txt.join ", " (ts.map told)) " ").map .str)) else M.stuck) q = _
    rw [if_pos, told_split h hn]
    · rfl
    · have := join_len ts h
      rw [← TL.join_eq] at this
      rw [decide_eq_true (show (Txt.join ", " (ts.map told)).length + 2 ≤ 16777216 by omega)]
      decide
  have hsz : szOk ((ts.map trD).length + 1) = true := by
    unfold szOk
    rw [List.length_map, decide_eq_true_eq]
    omega
  have e1 : (mCallK mtrips_in 1 0 [] [.p 0] (mCons (mSM dSplit (mVar 1) (mCons (mC (.str " ")) mNil)) mNil) mNil) [some (.d (.cls 10)), some (.d (.str (Txt.join ", " (ts.map told)))), none] q = some (.ok (.lst (ts.map trD)), q) :=
    callK_run (xs := [.lst ((wl ts).map D.str)]) (p1 := q) (p2 := q) (cons_run hs rfl) rfl ⟨rfl, rfl⟩ (in_run h hn h12 q)
  have e2 : (mNewV 0 10 (mNewS 10 iTour (mStar (mVar 2)))) [some (.d (.cls 10)), some (.d (.str (Txt.join ", " (ts.map told)))), some (.d (.lst (ts.map trD)))] q = some (mkOut ts, q) := newV_run rfl (newS_run (p1 := q) (xs := ts.map trD) (star_run rfl) hsz (mk_run (by omega) q))
  have hif : (sIf (mNotT (mTru (mCB (dIsi isT) (mCons (mVar 1) (mCons (mC (.ty "str")) mNil))))) (sRaise 5 2 0 [] [.p 0, .p 1] 2 (mCons (mC (.int 0)) (mCons (mC (.int 0)) mNil)) mNil) sNx) [some (.d (.cls 10)), some (.d (.str (Txt.join ", " (ts.map told)))), none] q = some (.nx [some (.d (.cls 10)), some (.d (.str (Txt.join ", " (ts.map told)))), none], q) := if_no (p1 := q) (by kernel_rfl) rfl
  cases hm : mkOut ts with
  | ok d =>
    rw [hm] at e2
    exact fn_ret rfl (seq_run hif (seq_run (set_run e1) (ret_run e2)))
  | ex c fs =>
    rw [hm] at e2
    exact fn_er (δ' := [some (.d (.cls 10)), some (.d (.str (Txt.join ", " (ts.map told)))), some (.d (.lst (ts.map trD)))]) rfl (seq_run hif (seq_run (set_run e1) (ret_er e2)))
end Lw

namespace Lw
open PySem ME
/-! ### draws -/
def drC : DrC := ⟨46549, 1217, 2147483549, 58441, 647, 2147483629, 173, 57173, 89, 2147483587⟩
theorem draw_eq : b_law_draw = bDraw drC := by kernel_rfl
theorem drC_ok : drC.ok = true := by decide +kernel
theorem hd_draw {many : Int} (h0 : 0 < many) (h1 : many < 2 ^ 8999) : Hd 1 (m_law_draw [.pen, .int many]) (fun d => ∃ r, d = .int r ∧ 0 ≤ r ∧ r < many) := by
  unfold m_law_draw
  rw [draw_eq]
  exact Hd.draw drC_ok h0 h1
theorem big1000 : (1000 : Int) < 2 ^ 8999 := by decide +kernel
theorem big {many : Int} (h : many < 1000) : many < 2 ^ 8999 := Int.lt_trans h big1000
theorem pick_run {l : List D} {k : Int} {d : D} {p p1 : Pn} (e : m_law_draw [.pen, .int (l.length : Int)] p = some (.ok (.int k), p1)) (h : L2.atI l k = some d) : m_law_pick [.pen, .lst l] p = some (.ok d, p1) :=
  fn_ret rfl (ret_run (bn rfl (callK_run (xs := [.pen, .int (l.length : Int)]) rfl rfl ⟨rfl, rfl⟩ e) (ix_run h)))
theorem hd_pick {l : List D} (h0 : 0 < l.length) (h1 : l.length < 1000) : Hd 1 (m_law_pick [.pen, .lst l]) (fun d => d ∈ l) := by
  intro b p hp hb
  obtain ⟨_, p1, e1, ⟨k, rfl, k0, k1⟩, q1⟩ := hd_draw (many := (l.length : Int)) (by omega) (big (by omega)) b p hp hb
  obtain ⟨d, ed, md, _⟩ := at_mem (l := l) k0 k1
  exact ⟨d, p1, pick_run e1 ed, md, q1⟩
theorem pnb_mono {b c : Int} {p : Pn} (h : PnB b p) (hc : b ≤ c) : PnB c p := ⟨h.lo, Int.le_trans h.hi hc, h.len⟩
/-! ### lists popped -/
theorem erase_perm {α : Type} : ∀ {l : List α} {i : Nat} {y : α}, l[i]? = some y → (y :: l.eraseIdx i).Perm l
  | [], i, y, h => by simp at h
  | x :: l, 0, y, h => by
    simp at h
    subst h
    exact List.Perm.refl _
  | x :: l, i + 1, y, h => by
    have ih := erase_perm (l := l) (i := i) (y := y) (by simpa using h)
    show (y :: x :: l.eraseIdx i).Perm (x :: l)
    exact (List.Perm.swap x y _).trans (ih.cons x)
theorem pop_loop {f : List D → List D → Option Sl → DS} {v i j : Nat} {E : EX} (hg : ∀ ys xs c d, (gN v) d (f ys xs c) = some (f ys xs (some (.d d)))) (hi : ∀ ys xs c, (f ys xs c)[i]? = some (some (.ml xs))) (hj : ∀ ys xs c, (f ys xs c)[j]? = some (some (.ml ys)))
    (hs : ∀ ys xs c ys' xs', ((f ys xs c).set j (some (.ml ys'))).set i (some (.ml xs')) = f ys' xs' c) (hE : ∀ ys xs c p r, m_law_draw [.pen, .int (ys.length : Int)] p = r → E (f ys xs c) p = r) :
    ∀ (l xs ys : List D) (b : Int) (p : Pn) (c : Option Sl), PnB b p → l.length ≤ ys.length → xs.length + ys.length ≤ 100 → b + l.length ≤ 1000000 →
    ∃ xs' ys' c' p', forGo (gN v) (sAppPop i j E) l (f ys xs c) p = some (.nx (f ys' xs' c'), p') ∧ (xs' ++ ys').Perm (xs ++ ys) ∧ xs'.length = xs.length + l.length ∧ PnB (b + l.length) p'
  | [], xs, ys, b, p, c, hp, _, _, _ => ⟨xs, ys, c, p, rfl, List.Perm.refl _, rfl, by simpa using hp⟩
  | d :: l, xs, ys, b, p, c, hp, hl, hz, hb => by
    rw [List.length_cons] at hl hb
    obtain ⟨_, p1, e1, ⟨k, rfl, k0, k1⟩, q1⟩ := hd_draw (many := (ys.length : Int)) (by omega) (big (by omega)) b p hp (by omega)
    have hk : k.toNat < ys.length := by omega
    obtain ⟨y, hy⟩ : ∃ y, ys[k.toNat]? = some y := ⟨_, List.getElem?_eq_getElem hk⟩
    have st : sAppPop i j E (f ys xs (some (.d d))) p = some (.nx (f (ys.eraseIdx k.toNat) (xs ++ [y]) (some (.d d))), p1) := by
      rw [appPop_run (xs := xs) (ys := ys) (k := k) (n := k.toNat) (y := y) (hi _ _ _) (hj _ _ _) (hE _ _ _ _ _ e1) k0 (by omega) rfl hy (by omega), hs]
    have hle : (ys.eraseIdx k.toNat).length = ys.length - 1 := List.length_eraseIdx_of_lt hk
    obtain ⟨xs', ys', c', p', e2, pm, hlen, q2⟩ := pop_loop hg hi hj hs hE l (xs ++ [y]) (ys.eraseIdx k.toNat) (b + (1 : Nat)) p1 (some (.d d)) q1 (by omega) (by rw [List.length_append, List.length_singleton]; omega) (by omega)
    refine ⟨xs', ys', c', p', for_step (hg _ _ _ _) st e2, pm.trans ?_, ?_, ?_⟩
    · rw [List.append_assoc]
      exact (List.Perm.append_left xs (erase_perm hy))
    · rw [hlen, List.length_append, List.length_singleton, List.length_cons]; omega
    · have : b + ((d :: l).length : Nat) = b + (1 : Nat) + (l.length : Nat) := by rw [List.length_cons]; omega
      rw [this]; exact q2
/-! ### rings -/
theorem strs_of {pool : List Str} : ∀ {xs : List D}, (∀ d ∈ xs, d ∈ pool.map D.str) → ∃ rs : List Str, xs = rs.map D.str ∧ ∀ s ∈ rs, s ∈ pool
  | [], _ => ⟨[], rfl, by simp⟩
  | d :: xs, h => by
    obtain ⟨s, hs, rfl⟩ := List.mem_map.mp (h d List.mem_cons_self)
    obtain ⟨rs, rfl, hr⟩ := strs_of (xs := xs) fun e he => h e (List.mem_cons_of_mem _ he)
    refine ⟨s :: rs, rfl, fun z hz => ?_⟩
    rcases List.mem_cons.mp hz with rfl | hz
    · exact hs
    · exact hr z hz
def prices (r : Int) : List D := [.int 0, .int 1, .int 5, .int 99, .int r]
def rowS : SX := (sSeq (sSet 11 (mCallK m_law_pick 2 0 [] [.p 0, .p 1] (mCons (mVar 0) (mCons (mLst (mCons (mC (.int 0)) (mCons (mC (.int 1)) (mCons (mC (.int 5)) (mCons (mC (.int 99)) (mCons (mCallK m_law_draw 2 0 [] [.p 0, .p 1] (mCons (mVar 0) (mCons (mC (.int 100)) mNil)) mNil) mNil)))))) mNil)) mNil)) (sApp 4 (mTup (mCons (mIxM 8 (mVar 10)) (mCons (mIxM 8 (mBin dMod (mCB dInt1 (mCons (mBin dAdd (mVar 10) (mC (.int 1))) mNil)) (mLenM 8))) (mCons (mVar 11) mNil))))))
def pairAt (rs : List Str) (i : Nat) : Str × Str := (rs.getD i "", rs.getD ((i + 1) % rs.length) "")
theorem row_step {rs : List Str} {n : Nat} (hn : n < rs.length) {R : List D} (hR : R.length < 100) {b : Int} {p : Pn} (hp : PnB b p) (hb : b + 2 ≤ 1000000) (a1 a2 a3 a5 a6 a7 a9 a11 : Option Sl) :
    ∃ i p', rowS [some (.d .pen), a1, a2, a3, some (.ml R), a5, a6, a7, some (.ml (rs.map D.str)), a9, some (.d (.int n)), a11] p = some (.nx [some (.d .pen), a1, a2, a3, some (.ml (R ++ [rowT ((pairAt rs n).1, (pairAt rs n).2, i)])), a5, a6, a7, some (.ml (rs.map D.str)), a9, some (.d (.int n)), some (.d (.int i))], p') ∧ 0 ≤ i ∧ i ≤ 99 ∧ PnB (b + 2) p' := by
  obtain ⟨_, p1, e1, ⟨r, rfl, r0, r1⟩, q1⟩ := hd_draw (many := 100) (by decide) (big (by decide)) b p hp (by omega)
  obtain ⟨d, p2, e2, m2, q2⟩ := hd_pick (l := prices r) (show 0 < 5 by decide) (show 5 < 1000 by decide) (b + (1 : Nat)) p1 q1 (by omega)
  obtain ⟨i, rfl, i0, i1⟩ : ∃ i, d = .int i ∧ 0 ≤ i ∧ i ≤ 99 := by
    unfold prices at m2
    simp only [List.mem_cons, List.not_mem_nil, or_false] at m2
    rcases m2 with rfl | rfl | rfl | rfl | rfl <;> exact ⟨_, rfl, by omega, by omega⟩
  refine ⟨i, p2, ?_, i0, i1, pnb_mono q2 (by omega)⟩
  have h1 : L2.atI (rs.map D.str) (n : Int) = some (.str (pairAt rs n).1) := by
    refine L2.atI_nat ?_
    rw [List.getElem?_map, List.getElem?_eq_getElem hn]
    unfold pairAt
    simp [List.getD, List.getElem?_eq_getElem hn]
  have hm : (n + 1) % rs.length < rs.length := Nat.mod_lt _ (by omega)
  have h2 : L2.atI (rs.map D.str) (((n + 1) % rs.length : Nat) : Int) = some (.str (pairAt rs n).2) := by
    refine L2.atI_nat ?_
    rw [List.getElem?_map, List.getElem?_eq_getElem hm]
    unfold pairAt
    simp [List.getD, List.getElem?_eq_getElem hm]
  have hd : ∀ q, dMod (.int ((n : Int) + 1)) (.int ((rs.map D.str).length : Int)) q = some (.ok (.int (((n + 1) % rs.length : Nat) : Int)), q) := fun q => by
    show (if decide ((0 : Int) < ((rs.map D.str).length : Int)) = true then M.ret (D.int (((n : Int) + 1) % ((rs.map D.str).length : Int))) else M.stuck) q = _
    rw [List.length_map, if_pos (by rw [decide_eq_true_eq]; omega)]
    have : ((n : Int) + 1) % (rs.length : Int) = (((n + 1) % rs.length : Nat) : Int) := rfl
    rw [this]; rfl
  refine seq_run (set_run (d := .int i) (p' := p2) (callK_run (xs := [.pen, .lst (prices r)]) (p1 := p1) (p2 := p1) (cons_run (p1 := p) rfl (cons_run (p1 := p1) (lst_run (xs := [.int 0, .int 1, .int 5, .int 99, .int r]) (cons_run (p1 := p) rfl (cons_run (p1 := p) rfl (cons_run (p1 := p) rfl (cons_run (p1 := p) rfl (cons_run (p1 := p1) (callK_run (xs := [.pen, .int 100]) rfl rfl ⟨rfl, rfl⟩ e1) rfl))))) rfl) rfl)) rfl ⟨rfl, rfl⟩ e2)) ?_
  refine app_run (xs := R) (d := rowT ((pairAt rs n).1, (pairAt rs n).2, i)) rfl ?_ (by rw [decide_eq_true_eq]; omega)
  refine tup_run (xs := [.str (pairAt rs n).1, .str (pairAt rs n).2, .int i]) (cons_run (p1 := p2) (ixM_run (xs := rs.map D.str) (k := (n : Int)) (p1 := p2) rfl rfl h1) (cons_run (p1 := p2) (ixM_run (xs := rs.map D.str) (k := (((n + 1) % rs.length : Nat) : Int)) (p1 := p2) rfl (bn (x := .int ((n : Int) + 1)) (y := .int ((rs.map D.str).length : Int)) (p1 := p2) (p2 := p2) (cb_run (xs := [.int ((n : Int) + 1)]) (p1 := p2) rfl rfl) (lenM_run rfl) (hd p2)) h2) (cons_run (p1 := p2) rfl rfl))) rfl
theorem row_loop {rs : List Str} : ∀ (l : List Nat), (∀ n ∈ l, n < rs.length) → ∀ (us : List Trp) (b : Int) (p : Pn), PnB b p → us.length + l.length ≤ 50 → b + 2 * l.length ≤ 1000000 → ∀ (a1 a2 a3 a5 a6 a7 a9 a10 a11 : Option Sl),
    ∃ vs c10 c11 p', forGo (gN 10) rowS (l.map fun (n : Nat) => D.int (n : Int)) [some (.d .pen), a1, a2, a3, some (.ml (us.map rowT)), a5, a6, a7, some (.ml (rs.map D.str)), a9, a10, a11] p = some (.nx [some (.d .pen), a1, a2, a3, some (.ml ((us ++ vs).map rowT)), a5, a6, a7, some (.ml (rs.map D.str)), a9, c10, c11], p')
      ∧ vs.map (fun t => (t.1, t.2.1)) = l.map (pairAt rs) ∧ (∀ t ∈ vs, 0 ≤ t.2.2 ∧ t.2.2 ≤ 99) ∧ PnB (b + 2 * l.length) p'
  | [], _, us, b, p, hp, _, _, a1, a2, a3, a5, a6, a7, a9, a10, a11 => ⟨[], a10, a11, p, by rw [List.append_nil]; rfl, rfl, by simp, by simpa using hp⟩
  | n :: l, hn, us, b, p, hp, hl, hb, a1, a2, a3, a5, a6, a7, a9, a10, a11 => by
    rw [List.length_cons] at hl hb
    obtain ⟨i, p1, e1, i0, i1, q1⟩ := row_step (hn n List.mem_cons_self) (R := us.map rowT) (by rw [List.length_map]; omega) hp (by omega) a1 a2 a3 a5 a6 a7 a9 a11
    obtain ⟨vs, c10, c11, p2, e2, h1, h2, q2⟩ := row_loop l (fun m hm => hn m (List.mem_cons_of_mem _ hm)) (us ++ [((pairAt rs n).1, (pairAt rs n).2, i)]) (b + 2) p1 q1 (by rw [List.length_append, List.length_singleton]; omega) (by omega) a1 a2 a3 a5 a6 a7 a9 (some (.d (.int n))) (some (.d (.int i)))
    refine ⟨((pairAt rs n).1, (pairAt rs n).2, i) :: vs, c10, c11, p2, ?_, ?_, ?_, ?_⟩
    · have e3 : us.map rowT ++ [rowT ((pairAt rs n).1, (pairAt rs n).2, i)] = (us ++ [((pairAt rs n).1, (pairAt rs n).2, i)]).map rowT := by rw [List.map_append]; rfl
      rw [e3] at e1
      refine for_step rfl e1 ?_
      rw [e2, List.append_assoc]
      rfl
    · rw [List.map_cons, List.map_cons, h1]
    · intro t ht
      rcases List.mem_cons.mp ht with rfl | ht
      · exact ⟨i0, i1⟩
      · exact h2 t ht
    · refine pnb_mono q2 ?_
      rw [List.length_cons]
      omega
end Lw

namespace Lw
open PySem ME
structure PInv (pool : List Str) (ts : List Trp) : Prop where
  mem : ∀ t ∈ ts, t.1 ∈ pool ∧ t.2.1 ∈ pool ∧ t.1 ≠ t.2.1 ∧ 0 ≤ t.2.2 ∧ t.2.2 ≤ 99
  bal : (ts.map (·.1)).Perm (ts.map (·.2.1))
theorem PInv.app {pool : List Str} {a b : List Trp} (h : PInv pool a) (k : PInv pool b) : PInv pool (a ++ b) := by
  refine ⟨fun t ht => ?_, ?_⟩
  · rcases List.mem_append.mp ht with z | z
    · exact h.mem t z
    · exact k.mem t z
  · rw [List.map_append, List.map_append]
    exact h.bal.append k.bal
theorem PInv.perm {pool : List Str} {a b : List Trp} (h : PInv pool a) (p : b.Perm a) : PInv pool b :=
  ⟨fun t ht => h.mem t (p.mem_iff.mp ht), (p.map _).trans (h.bal.trans (p.map _).symm)⟩
theorem pr2 (a b : Str) : (List.range [a, b].length).map (pairAt [a, b]) = [(a, b), (b, a)] := by kernel_rfl
theorem pr3 (a b c : Str) : (List.range [a, b, c].length).map (pairAt [a, b, c]) = [(a, b), (b, c), (c, a)] := by kernel_rfl
theorem pr4 (a b c d : Str) : (List.range [a, b, c, d].length).map (pairAt [a, b, c, d]) = [(a, b), (b, c), (c, d), (d, a)] := by kernel_rfl
theorem ring_facts {pool rs : List Str} (hr : ∀ s ∈ rs, s ∈ pool) (hn : rs.Nodup) (h2 : 2 ≤ rs.length) (h4 : rs.length ≤ 4) {vs : List Trp} (h : vs.map (fun t => (t.1, t.2.1)) = (List.range rs.length).map (pairAt rs)) (hp : ∀ t ∈ vs, 0 ≤ t.2.2 ∧ t.2.2 ≤ 99) : PInv pool vs ∧ vs.length = rs.length := by
  have hl : vs.length = rs.length := by
    have := congrArg List.length h
    rw [List.length_map, List.length_map, List.length_range] at this
    exact this
  have hS : vs.map (·.1) = (vs.map (fun t => (t.1, t.2.1))).map (·.1) := by rw [List.map_map]; rfl
  have hG : vs.map (·.2.1) = (vs.map (fun t => (t.1, t.2.1))).map (·.2) := by rw [List.map_map]; rfl
  refine ⟨⟨fun t ht => ?_, ?_⟩, hl⟩
  · have hm : (t.1, t.2.1) ∈ vs.map (fun t => (t.1, t.2.1)) := List.mem_map_of_mem (f := fun t : Trp => (t.1, t.2.1)) ht
    rw [h] at hm
    obtain ⟨hp0, hp1⟩ := hp t ht
    match rs, hr, hn, h2, h4, hm with
    | [a, b], hr, hn, _, _, hm =>
      rw [pr2] at hm
      simp only [List.mem_cons, List.not_mem_nil, or_false, Prod.mk.injEq] at hm
      simp only [List.nodup_cons, List.mem_cons, List.not_mem_nil, or_false, not_or, List.nodup_nil, and_true, not_false_eq_true] at hn
      rcases hm with ⟨e1, e2⟩ | ⟨e1, e2⟩ <;> rw [e1, e2]
      · exact ⟨hr a (by simp), hr b (by simp), hn, hp0, hp1⟩
      · exact ⟨hr b (by simp), hr a (by simp), Ne.symm hn, hp0, hp1⟩
    | [a, b, c], hr, hn, _, _, hm =>
      rw [pr3] at hm
      simp only [List.mem_cons, List.not_mem_nil, or_false, Prod.mk.injEq] at hm
      simp only [List.nodup_cons, List.mem_cons, List.not_mem_nil, or_false, not_or, List.nodup_nil, and_true, not_false_eq_true] at hn
      rcases hm with ⟨e1, e2⟩ | ⟨e1, e2⟩ | ⟨e1, e2⟩ <;> rw [e1, e2]
      · exact ⟨hr a (by simp), hr b (by simp), hn.1.1, hp0, hp1⟩
      · exact ⟨hr b (by simp), hr c (by simp), hn.2, hp0, hp1⟩
      · exact ⟨hr c (by simp), hr a (by simp), Ne.symm hn.1.2, hp0, hp1⟩
    | [a, b, c, d], hr, hn, _, _, hm =>
      rw [pr4] at hm
      simp only [List.mem_cons, List.not_mem_nil, or_false, Prod.mk.injEq] at hm
      simp only [List.nodup_cons, List.mem_cons, List.not_mem_nil, or_false, not_or, List.nodup_nil, and_true, not_false_eq_true] at hn
      rcases hm with ⟨e1, e2⟩ | ⟨e1, e2⟩ | ⟨e1, e2⟩ | ⟨e1, e2⟩ <;> rw [e1, e2]
      · exact ⟨hr a (by simp), hr b (by simp), hn.1.1, hp0, hp1⟩
      · exact ⟨hr b (by simp), hr c (by simp), hn.2.1.1, hp0, hp1⟩
      · exact ⟨hr c (by simp), hr d (by simp), hn.2.2, hp0, hp1⟩
      · exact ⟨hr d (by simp), hr a (by simp), Ne.symm hn.1.2.2, hp0, hp1⟩
    | [], _, _, h2, _, _ => exact absurd h2 (by simp)
    | [_], _, _, h2, _, _ => exact absurd h2 (by simp)
    | _ :: _ :: _ :: _ :: _ :: _, _, _, _, h4, _ => exact absurd h4 (by simp)
  · rw [hS, hG, h]
    match rs, h2, h4 with
    | [a, b], _, _ => rw [pr2]; exact List.perm_append_comm (l₁ := [a]) (l₂ := [b])
    | [a, b, c], _, _ => rw [pr3]; exact List.perm_append_comm (l₁ := [a]) (l₂ := [b, c])
    | [a, b, c, d], _, _ => rw [pr4]; exact List.perm_append_comm (l₁ := [a]) (l₂ := [b, c, d])
    | [], h2, _ => exact absurd h2 (by simp)
    | [_], h2, _ => exact absurd h2 (by simp)
    | _ :: _ :: _ :: _ :: _ :: _, _, h4 => exact absurd h4 (by simp)
theorem p2FF_run {i j : Nat} {f g : AX} {ds es : List D} {δ : DS} {p p1 p2 : Pn} (h1 : f δ p = some (.ok ds, p1)) (z1 : szOk ds.length = true) (h2 : g δ p1 = some (.ok es, p2)) (z2 : szOk es.length = true) : sP2FF i j f g δ p = some (.nx ((δ.set i (some (.ml ds))).set j (some (.ml es))), p2) := by
  unfold sP2FF
  dsimp only [sBnd]
  rw [h1]
  dsimp only
  rw [if_pos z1, h2]
  dsimp only
  rw [if_pos z2]
theorem rng_run {e : EX} {δ : DS} {p p1 : Pn} {j : Int} (h : e δ p = some (.ok (.int j), p1)) (h0 : 0 ≤ j) (h1 : j < 1000) : iRng (mCons e mNil) δ p = some (.ok ((List.range j.toNat).map fun (i : Nat) => D.int (i : Int)), p1) := by
  unfold iRng M.bnd
  rw [cons_run h (r := mNil) (p2 := p1) (xs := []) rfl]
  dsimp only
  rw [if_pos (by simp; omega)]
  rfl
def turnS : SX := (sSeq (sP2FF 7 8 (cpD (mVar 3)) mNil) (sSeq (sFor (iRng (mCons (mBin dAdd (mC (.int 2)) (mCallK m_law_draw 2 0 [] [.p 0, .p 1] (mCons (mVar 0) (mCons (mCB dMin (mCons (mC (.int 3)) (mCons (mBin dSub (mCB dLen (mCons (mVar 3) mNil)) (mC (.int 1))) mNil))) mNil)) mNil)) mNil)) (gN 9) (sAppPop 8 7 (mCallK m_law_draw 2 0 [] [.p 0, .p 1] (mCons (mVar 0) (mCons (mLenM 7) mNil)) mNil))) (sIf (mTest (mBin (dCmpI fun i j => decide (i ≤ j)) (mBin dAdd (mLenM 4) (mLenM 8)) (mVar 1))) (sFor (iRng (mCons (mLenM 8) mNil)) (gN 10) rowS) sNx)))
abbrev dsP (pool : List Str) (rows : List D) (a1 a2 a5 a6 a7 a8 a9 a10 a11 : Option Sl) : DS := [some (.d .pen), a1, a2, some (.d (.lst (pool.map D.str))), some (.ml rows), a5, a6, a7, a8, a9, a10, a11]
theorem turn_run {pool : List Str} (hnd : (pool.map D.str).Nodup) (hp2 : 2 ≤ pool.length) (hp6 : pool.length ≤ 6) {ts : List Trp} {most : Nat} (hm : most ≤ 20) (hl12 : ts.length ≤ most) (I : PInv pool ts) {b : Int} {p : Pn} (hp : PnB b p) (hb : b + 13 ≤ 1000000) (a2 a5 a6 a7 a8 a9 a10 a11 : Option Sl) :
    ∃ ts' c7 c8 c9 c10 c11 p', turnS (dsP pool (ts.map rowT) (some (.d (.int most))) a2 a5 a6 a7 a8 a9 a10 a11) p = some (.nx (dsP pool (ts'.map rowT) (some (.d (.int most))) a2 a5 a6 c7 c8 c9 c10 c11), p') ∧ PInv pool ts' ∧ ts'.length ≤ most ∧ ts.length ≤ ts'.length ∧ (ts.length + 4 ≤ most → ts.length + 2 ≤ ts'.length) ∧ PnB (b + 13) p' := by
  have hmin : ∃ mn : Int, 0 < mn ∧ mn ≤ 3 ∧ mn + 1 ≤ pool.length ∧ ∀ q, dMin [.int 3, .int (((pool.map D.str).length : Int) - 1)] q = some (.ok (.int mn), q) := by
    refine ⟨if (((pool.map D.str).length : Int) - 1) < 3 then (((pool.map D.str).length : Int) - 1) else 3, ?_, ?_, ?_, fun q => rfl⟩ <;> rw [List.length_map] <;> split <;> omega
  obtain ⟨mn, m0, m3, mp, hmin⟩ := hmin
  obtain ⟨_, p1, e1, ⟨r, rfl, r0, r1⟩, q1⟩ := hd_draw (many := mn) m0 (big (by omega)) b p hp (by omega)
  have hcount : ((List.range (2 + r).toNat).map fun (i : Nat) => D.int (i : Int)).length = (2 + r).toNat := by rw [List.length_map, List.length_range]
  obtain ⟨xs, ys, c9, p2, e2, pm, hlx, q2⟩ := pop_loop (f := fun ys xs c => dsP pool (ts.map rowT) (some (.d (.int most))) a2 a5 a6 (some (.ml ys)) (some (.ml xs)) c a10 a11) (v := 9) (i := 8) (j := 7) (E := mCallK m_law_draw 2 0 [] [.p 0, .p 1] (mCons (mVar 0) (mCons (mLenM 7) mNil)) mNil)
    (fun _ _ _ _ => rfl) (fun _ _ _ => rfl) (fun _ _ _ => rfl) (fun _ _ _ _ _ => rfl) (fun ys xs c p r h => callK_run (xs := [.pen, .int (ys.length : Int)]) (p1 := p) (p2 := p) (cons_run (p1 := p) rfl (cons_run (p1 := p) (lenM_run rfl) rfl)) rfl ⟨rfl, rfl⟩ h)
    ((List.range (2 + r).toNat).map fun (i : Nat) => D.int (i : Int)) [] (pool.map D.str) (b + (1 : Nat)) p1 a9 q1 (by rw [hcount, List.length_map]; omega) (by simp; omega) (by rw [hcount]; omega)
  rw [hcount] at hlx q2
  rw [List.length_nil, Nat.zero_add] at hlx
  rw [List.nil_append] at pm
  obtain ⟨rs, rfl, hrs⟩ := strs_of (pool := pool) (xs := xs) fun d hd => pm.mem_iff.mp (List.mem_append_left _ hd)
  rw [List.length_map] at hlx
  have hrn : rs.Nodup := by
    have h1 : (rs.map D.str ++ ys).Nodup := pm.nodup_iff.mpr hnd
    exact (List.pairwise_map.mp (List.nodup_append.mp h1).1).imp fun hne he => hne (by rw [he])
  have st1 : sP2FF 7 8 (cpD (mVar 3)) mNil (dsP pool (ts.map rowT) (some (.d (.int most))) a2 a5 a6 a7 a8 a9 a10 a11) p = some (.nx (dsP pool (ts.map rowT) (some (.d (.int most))) a2 a5 a6 (some (.ml (pool.map D.str))) (some (.ml [])) a9 a10 a11), p) :=
    p2FF_run (ds := pool.map D.str) (es := []) (p1 := p) rfl (by unfold szOk; rw [List.length_map, decide_eq_true_eq]; omega) rfl rfl
  have hrng : iRng (mCons (mBin dAdd (mC (.int 2)) (mCallK m_law_draw 2 0 [] [.p 0, .p 1] (mCons (mVar 0) (mCons (mCB dMin (mCons (mC (.int 3)) (mCons (mBin dSub (mCB dLen (mCons (mVar 3) mNil)) (mC (.int 1))) mNil))) mNil)) mNil)) mNil) (dsP pool (ts.map rowT) (some (.d (.int most))) a2 a5 a6 (some (.ml (pool.map D.str))) (some (.ml [])) a9 a10 a11) p = some (.ok ((List.range (2 + r).toNat).map fun (i : Nat) => D.int (i : Int)), p1) := by
    refine rng_run (j := 2 + r) (bn (x := .int 2) (y := .int r) (p1 := p) (p2 := p1) rfl (callK_run (xs := [.pen, .int mn]) (p1 := p) (p2 := p) (cons_run (p1 := p) rfl (cons_run (p1 := p) (cb_run (xs := [.int 3, .int (((pool.map D.str).length : Int) - 1)]) (p1 := p) rfl (hmin p)) rfl)) rfl ⟨rfl, rfl⟩ e1) rfl) (by omega) (by omega)
  have ht : (mTest (mBin (dCmpI fun i j => decide (i ≤ j)) (mBin dAdd (mLenM 4) (mLenM 8)) (mVar 1))) (dsP pool (ts.map rowT) (some (.d (.int most))) a2 a5 a6 (some (.ml ys)) (some (.ml (rs.map D.str))) c9 a10 a11) p2 = some (.ok (decide (ts.length + rs.length ≤ most)), p2) := by
    refine test_run (bn (x := .int (((ts.map rowT).length : Int) + ((rs.map D.str).length : Int))) (y := .int most) (p1 := p2) (p2 := p2) (bn (x := .int ((ts.map rowT).length : Int)) (y := .int ((rs.map D.str).length : Int)) (p1 := p2) (p2 := p2) (lenM_run rfl) (lenM_run rfl) rfl) rfl ?_)
    rw [cmp_le, List.length_map, List.length_map]
    have : decide ((ts.length : Int) + (rs.length : Int) ≤ (most : Int)) = decide (ts.length + rs.length ≤ most) := by
      rcases Nat.lt_or_ge most (ts.length + rs.length) with h | h
      · rw [decide_eq_false (by omega), decide_eq_false (by omega)]
      · rw [decide_eq_true (by omega), decide_eq_true (by omega)]
    rw [this]
  have fin : ∀ {w : Option (Fl × Pn)}, (sIf (mTest (mBin (dCmpI fun i j => decide (i ≤ j)) (mBin dAdd (mLenM 4) (mLenM 8)) (mVar 1))) (sFor (iRng (mCons (mLenM 8) mNil)) (gN 10) rowS) sNx) (dsP pool (ts.map rowT) (some (.d (.int most))) a2 a5 a6 (some (.ml ys)) (some (.ml (rs.map D.str))) c9 a10 a11) p2 = w → turnS (dsP pool (ts.map rowT) (some (.d (.int most))) a2 a5 a6 a7 a8 a9 a10 a11) p = w := fun {w} hw =>
    seq_run st1 (seq_run (for_run hrng e2) hw)
  by_cases hfit : ts.length + rs.length ≤ most
  · rw [decide_eq_true hfit] at ht
    obtain ⟨vs, c10, c11, p3, e3, h1, h2, q3⟩ := row_loop (rs := rs) (List.range rs.length) (fun n hn => List.mem_range.mp hn) ts (b + (1 : Nat) + ((2 + r).toNat : Nat)) p2 q2 (by rw [List.length_range]; omega) (by rw [List.length_range]; omega) (some (.d (.int most))) a2 (some (.d (.lst (pool.map D.str)))) a5 a6 (some (.ml ys)) c9 a10 a11
    obtain ⟨J, hvl⟩ := ring_facts hrs hrn (by omega) (by omega) h1 h2
    refine ⟨ts ++ vs, some (.ml ys), some (.ml (rs.map D.str)), c9, c10, c11, p3, fin (if_yes ht (for_run (ds := (List.range rs.length).map fun (n : Nat) => D.int (n : Int)) (p1 := p2) ?_ e3)), I.app J, by rw [List.length_append]; omega, by rw [List.length_append]; omega, fun _ => by rw [List.length_append]; omega, pnb_mono q3 (by rw [List.length_range]; omega)⟩
    have := rng_run (e := mLenM 8) (δ := dsP pool (ts.map rowT) (some (.d (.int most))) a2 a5 a6 (some (.ml ys)) (some (.ml (rs.map D.str))) c9 a10 a11) (p := p2) (p1 := p2) (j := ((rs.map D.str).length : Int)) (lenM_run rfl) (by omega) (by rw [List.length_map]; omega)
    rw [List.length_map, Int.toNat_natCast] at this
    exact this
  · rw [decide_eq_false hfit] at ht
    refine ⟨ts, some (.ml ys), some (.ml (rs.map D.str)), c9, a10, a11, p2, fin (if_no ht rfl), I, hl12, Nat.le_refl _, fun h => ?_, pnb_mono q2 (by omega)⟩
    omega
theorem turns_plan {pool : List Str} (hnd : (pool.map D.str).Nodup) (hp2 : 2 ≤ pool.length) (hp6 : pool.length ≤ 6) {most : Nat} (hm : most ≤ 20) : ∀ (l : List D) (ts : List Trp), ts.length ≤ most → PInv pool ts → ∀ (b : Int) (p : Pn), PnB b p → b + 13 * l.length ≤ 1000000 → ∀ (a2 a5 a6 a7 a8 a9 a10 a11 : Option Sl),
    ∃ ts' c6 c7 c8 c9 c10 c11 p', forGo (gN 6) turnS l (dsP pool (ts.map rowT) (some (.d (.int most))) a2 a5 a6 a7 a8 a9 a10 a11) p = some (.nx (dsP pool (ts'.map rowT) (some (.d (.int most))) a2 a5 c6 c7 c8 c9 c10 c11), p') ∧ PInv pool ts' ∧ ts'.length ≤ most ∧ ts.length ≤ ts'.length ∧ (l ≠ [] → ts.length + 4 ≤ most → ts.length + 2 ≤ ts'.length) ∧ PnB (b + 13 * l.length) p'
  | [], ts, h12, I, b, p, hp, _, a2, a5, a6, a7, a8, a9, a10, a11 => ⟨ts, a6, a7, a8, a9, a10, a11, p, rfl, I, h12, Nat.le_refl _, fun h => absurd rfl h, by simpa using hp⟩
  | d :: l, ts, h12, I, b, p, hp, hb, a2, a5, a6, a7, a8, a9, a10, a11 => by
    rw [List.length_cons] at hb
    obtain ⟨t1, c7, c8, c9, c10, c11, p1, e1, I1, k1, k2, k3, q1⟩ := turn_run hnd hp2 hp6 hm h12 I hp (by omega) a2 a5 (some (.d d)) a7 a8 a9 a10 a11
    obtain ⟨t2, d6, d7, d8, d9, d10, d11, p2, e2, I2, j1, j2, j3, q2⟩ := turns_plan hnd hp2 hp6 hm l t1 k1 I1 (b + 13) p1 q1 (by omega) a2 a5 (some (.d d)) c7 c8 c9 c10 c11
    refine ⟨t2, d6, d7, d8, d9, d10, d11, p2, for_step rfl e1 e2, I2, j1, by omega, fun _ h => ?_, pnb_mono q2 (by rw [List.length_cons]; omega)⟩
    have := k3 h
    omega
def unRow : D → Trp
  | .tup [.str a, .str b, .int i] => (a, b, i)
  | _ => ("", "", 0)
theorem un_rows {ts : List Trp} {xs : List D} (h : xs.Perm (ts.map rowT)) : ∃ us : List Trp, xs = us.map rowT ∧ us.Perm ts := by
  refine ⟨xs.map unRow, ?_, ?_⟩
  · rw [List.map_map]
    have : ∀ d ∈ xs, (rowT ∘ unRow) d = d := fun d hd => by
      obtain ⟨t, _, rfl⟩ := List.mem_map.mp (h.mem_iff.mp hd)
      rfl
    exact (List.map_id xs).symm.trans (List.map_congr_left fun d hd => (this d hd).symm)
  · have := h.map unRow
    rw [List.map_map] at this
    have e : ts.map (unRow ∘ rowT) = ts := (List.map_congr_left (fun _ _ => rfl)).trans (List.map_id ts)
    rw [e] at this
    exact this
structure Plan (ts : List Trp) : Prop where
  ok : ∀ t ∈ ts, TOk t
  bal : (ts.map (·.1)).Perm (ts.map (·.2.1))
  two : 2 ≤ ts.length
  pool : ∃ l : List Str, l.length ≤ 6 ∧ ∀ t ∈ ts, t.1 ∈ l ∧ t.2.1 ∈ l
def wide : List Str := ["tour", "at", "paid", "a", "ab", "zzzzzzzz"]
def pools : List (List Str) := [["a", "b"], ["a", "b", "c"], ["b", "c", "d", "a"], wide]
def poolD : List D := pools.map fun (l : List Str) => D.lst (l.map D.str)
theorem pools_ok : ∀ l ∈ pools, (l.map D.str).Nodup ∧ 2 ≤ l.length ∧ l.length ≤ 6 ∧ ∀ s ∈ l, s ∈ allNames := by
  have nd : ∀ l ∈ pools, l.Nodup ∧ 2 ≤ l.length ∧ l.length ≤ 6 ∧ ∀ s ∈ l, s ∈ allNames := by decide +kernel
  intro l hl
  obtain ⟨h1, h2⟩ := nd l hl
  refine ⟨?_, h2⟩
  refine List.Pairwise.map D.str (fun a b hab he => ?_) h1
  exact hab (D.str.inj he)
theorem p3EFF_run {i j k : Nat} {e : EX} {f g : AX} {d : D} {ds es : List D} {δ : DS} {p p0 p1 p2 : Pn} (h0 : e δ p = some (.ok d, p0)) (h1 : f δ p0 = some (.ok ds, p1)) (z1 : szOk ds.length = true) (h2 : g δ p1 = some (.ok es, p2)) (z2 : szOk es.length = true) : sP3EFF i j k e f g δ p = some (.nx (((δ.set i (some (.d d))).set j (some (.ml ds))).set k (some (.ml es))), p2) := by
  unfold sP3EFF
  dsimp only [sBnd]
  rw [h0]
  dsimp only
  rw [h1]
  dsimp only
  rw [if_pos z1, h2]
  dsimp only
  rw [if_pos z2]
theorem plan_run {most : Nat} (hm4 : 4 ≤ most) (hm : most ≤ 20) : Hd 90 (m_law_plan [.pen, .int most]) (fun d => ∃ ts, d = .lst (ts.map rowT) ∧ Plan ts ∧ ts.length ≤ most) := by
  intro b p hp hb
  obtain ⟨dl, p1, e1, ml, q1⟩ := hd_pick (l := poolD) (by decide) (by decide) b p hp (by omega)
  obtain ⟨pool, hpool, rfl⟩ := List.mem_map.mp ml
  obtain ⟨hnd, hp2, hp6, hall⟩ := pools_ok pool hpool
  obtain ⟨_, p2, e2, ⟨r, rfl, r0, r1⟩, q2⟩ := hd_draw (many := 5) (by decide) (big (by decide)) (b + (1 : Nat)) p1 q1 (by omega)
  have hcount : ((List.range (1 + r).toNat).map fun (i : Nat) => D.int (i : Int)).length = (1 + r).toNat := by rw [List.length_map, List.length_range]
  obtain ⟨ts, c6, c7, c8, c9, c10, c11, p3, e3, I3, h12, _, h2, q3⟩ := turns_plan hnd hp2 hp6 hm ((List.range (1 + r).toNat).map fun (i : Nat) => D.int (i : Int)) [] (by simp) ⟨by simp, List.Perm.refl _⟩ (b + (1 : Nat) + (1 : Nat)) p2 q2 (by rw [hcount]; omega) (some (.d (.lst (wide.map D.str)))) (some (.ml [])) none none none none none none
  rw [hcount] at q3
  have h2 : 2 ≤ ts.length := by
    have := h2 (fun z => by have := congrArg List.length z; rw [hcount] at this; simp at this; omega) (by simpa using hm4)
    simpa using this
  have hc2 : ((List.range ts.length).map fun (i : Nat) => D.int (i : Int)).length = ts.length := by rw [List.length_map, List.length_range]
  obtain ⟨xs, ys, c6', p4, e4, pm, hlx, q4⟩ := pop_loop (f := fun ys xs c => dsP pool ys (some (.d (.int most))) (some (.d (.lst (wide.map D.str)))) (some (.ml xs)) c c7 c8 c9 c10 c11) (v := 6) (i := 5) (j := 4) (E := mCallK m_law_draw 2 0 [] [.p 0, .p 1] (mCons (mVar 0) (mCons (mLenM 4) mNil)) mNil)
    (fun _ _ _ _ => rfl) (fun _ _ _ => rfl) (fun _ _ _ => rfl) (fun _ _ _ _ _ => rfl) (fun ys xs c p r h => callK_run (xs := [.pen, .int (ys.length : Int)]) (p1 := p) (p2 := p) (cons_run (p1 := p) rfl (cons_run (p1 := p) (lenM_run rfl) rfl)) rfl ⟨rfl, rfl⟩ h)
    ((List.range ts.length).map fun (i : Nat) => D.int (i : Int)) [] (ts.map rowT) _ p3 c6 q3 (by rw [hc2, List.length_map]; omega) (by simp; omega) (by rw [hc2]; omega)
  rw [hc2] at hlx q4
  rw [List.length_nil, Nat.zero_add] at hlx
  rw [List.nil_append] at pm
  have hys : ys = [] := by
    have := pm.length_eq
    rw [List.length_append, List.length_map] at this
    exact List.length_eq_zero_iff.mp (by omega)
  subst hys
  rw [List.append_nil] at pm
  obtain ⟨us, rfl, hperm⟩ := un_rows pm
  have J := I3.perm hperm
  have hul := hperm.length_eq
  refine ⟨.lst (us.map rowT), p4, ?_, ⟨us, rfl, ⟨fun t ht => ?_, J.bal, by omega, ⟨pool, hp6, fun t ht => ⟨(J.mem t ht).1, (J.mem t ht).2.1⟩⟩⟩, by omega⟩, pnb_mono q4 (by omega)⟩
  · refine fn_ret rfl (seq_run (set_run (d := .lst (wide.map D.str)) (p' := p) (by kernel_rfl)) (seq_run (p3EFF_run (d := .lst (pool.map D.str)) (ds := []) (es := []) (p0 := p1) (p1 := p1) (p2 := p1) (callK_run (xs := [.pen, .lst poolD]) (p1 := p) (p2 := p) (by kernel_rfl) rfl ⟨rfl, rfl⟩ e1) rfl rfl rfl rfl) (seq_run (for_run (ds := (List.range (1 + r).toNat).map fun (i : Nat) => D.int (i : Int)) (p1 := p2) (rng_run (j := 1 + r) (bn (x := .int 1) (y := .int r) (p1 := p1) (p2 := p2) rfl (callK_run (xs := [.pen, .int 5]) rfl rfl ⟨rfl, rfl⟩ e2) rfl) (by omega) (by omega)) e3) (seq_run (for_run (ds := (List.range ts.length).map fun (i : Nat) => D.int (i : Int)) (p1 := p3) ?_ e4) (frz_run (xs := us.map rowT) rfl (ret_run rfl))))))
    have := rng_run (e := mLenM 4) (δ := dsP pool (ts.map rowT) (some (.d (.int most))) (some (.d (.lst (wide.map D.str)))) (some (.ml [])) c6 c7 c8 c9 c10 c11) (p := p3) (p1 := p3) (j := ((ts.map rowT).length : Int)) (lenM_run rfl) (by omega) (by rw [List.length_map]; omega)
    rw [List.length_map, Int.toNat_natCast] at this
    exact this
  · obtain ⟨m1, m2, m3, m4, m5⟩ := J.mem t ht
    exact ⟨nm_all _ (hall _ m1), nm_all _ (hall _ m2), m3, m4, m5⟩
end Lw

namespace Lw
open PySem ME
/-! ### right rows -/
structure Good (ts : List Trp) : Prop where
  ok : ∀ t ∈ ts, TOk t
  two : 2 ≤ ts.length
  most : ts.length ≤ 12
  six : (srtU (ysOf ts)).length ≤ 6
  bal : (ts.map (·.1)).Perm (ts.map (·.2.1))
theorem nd_len : ∀ {a b : List Str}, a.Nodup → (∀ x ∈ a, x ∈ b) → a.length ≤ b.length
  | [], b, _, _ => by simp
  | x :: a, b, hn, h => by
    obtain ⟨h1, h2⟩ := List.nodup_cons.mp hn
    have hx := h x List.mem_cons_self
    have := nd_len (a := a) (b := b.erase x) h2 fun y hy => by
      have hne : y ≠ x := fun z => h1 (by rw [← z]; exact hy)
      exact (List.mem_erase_of_ne hne).mpr (h y (List.mem_cons_of_mem _ hy))
    rw [List.length_erase_of_mem hx] at this
    have hp : 0 < b.length := List.length_pos_of_mem hx
    rw [List.length_cons]
    omega
theorem srtU_nd (l : List Str) : (srtU l).Nodup := (asc_srtU l).imp fun h e => by rw [e, ltS_irr] at h; cases h
theorem plan_good {ts : List Trp} (h : Plan ts) (hl : ts.length ≤ 12) : Good ts := by
  obtain ⟨l, hl6, hm⟩ := h.pool
  refine ⟨h.ok, h.two, hl, Nat.le_trans (nd_len (srtU_nd _) fun x hx => ?_) hl6, h.bal⟩
  rw [mem_srtU] at hx
  unfold ysOf at hx
  rcases List.mem_append.mp hx with hx | hx
  · obtain ⟨t, ht, rfl⟩ := List.mem_map.mp hx
    exact (hm t ht).1
  · obtain ⟨t, ht, rfl⟩ := List.mem_map.mp hx
    exact (hm t ht).2
theorem yards_same {a b : List Trp} (h : ∀ x, x ∈ ysOf a ↔ x ∈ ysOf b) : srtU (ysOf a) = srtU (ysOf b) :=
  asc_uniq (asc_srtU _) (asc_srtU _) fun k => by rw [mem_srtU, mem_srtU]; exact h k
theorem ys_perm {a b : List Trp} (p : a.Perm b) (x : Str) : x ∈ ysOf a ↔ x ∈ ysOf b := by
  unfold ysOf
  rw [List.mem_append, List.mem_append, (p.map (·.1)).mem_iff, (p.map (·.2.1)).mem_iff]
theorem Good.perm {a b : List Trp} (h : Good b) (p : a.Perm b) : Good a :=
  ⟨fun t ht => h.ok t (p.mem_iff.mp ht), by rw [p.length_eq]; exact h.two, by rw [p.length_eq]; exact h.most, by rw [yards_same (ys_perm p)]; exact h.six, (p.map _).trans (h.bal.trans (p.map _).symm)⟩
def swap (t : Trp) : Trp := (t.2.1, t.1, t.2.2)
theorem ok_swap {t : Trp} (h : TOk t) : TOk (swap t) := ⟨h.g, h.s, Ne.symm h.ne, h.lo, h.hi⟩
theorem ys_swap {ts : List Trp} (x : Str) : x ∈ ysOf (ts.map swap) ↔ x ∈ ysOf ts := by
  unfold ysOf
  rw [List.map_map, List.map_map, List.mem_append, List.mem_append]
  exact Or.comm
theorem Good.swap {ts : List Trp} (h : Good ts) : Good (ts.map swap) := by
  refine ⟨fun t ht => ?_, by rw [List.length_map]; exact h.two, by rw [List.length_map]; exact h.most, by rw [yards_same ys_swap]; exact h.six, ?_⟩
  · obtain ⟨u, hu, rfl⟩ := List.mem_map.mp ht
    exact ok_swap (h.ok u hu)
  · rw [List.map_map, List.map_map]
    exact h.bal.symm
theorem good_mk {ts : List Trp} (h : Good ts) : mkOut ts = .ok (tourD ts) := by
  have hb : firstBad ts = none := by
    unfold firstBad
    rw [List.find?_eq_none]
    intro y _
    have a1 : (ts.filter fun t => t.1 == y).length = ((ts.map (·.1)).filter (· == y)).length := by rw [List.filter_map, List.length_map]; rfl
    have a2 : (ts.filter fun t => t.2.1 == y).length = ((ts.map (·.2.1)).filter (· == y)).length := by rw [List.filter_map, List.length_map]; rfl
    have := (h.bal.filter (· == y)).length_eq
    unfold balB
    rw [a1, a2, this]
    simp
  have h1 := h.two
  have h2 := h.most
  have h3 := h.six
  unfold mkOut tourOut tripsOut
  rw [if_neg (by omega), if_neg (by omega), if_neg (by omega), hb]
theorem good_new {ts : List Trp} (h : Good ts) (q : Pn) : ((iTour [.tup (ts.map trD)]).bnd fun fs => M.ret (D.obj 10 fs)) q = some (.ok (tourD ts), q) := by
  rw [mk_run (by have := h.most; omega), good_mk h]
theorem sz_tr {ts : List Trp} (h : ts.length ≤ 12) : szOk ((ts.map trD).length + 1) = true := by
  unfold szOk
  rw [List.length_map, decide_eq_true_eq]
  omega
/-! ### the law's own makings -/
theorem cm_run {c n k : Nat} {f : List D → M D} {dd : List D} {l : List Src} {a b : AX} {δ : DS} {p p1 p2 : Pn} {xs ys : List D} {r : Option (Out D × Pn)} (h1 : a δ p = some (.ok xs, p1)) (h2 : b δ p1 = some (.ok ys, p2)) (h3 : xs.length = n ∧ ys.length = k) (h4 : f (.cls c :: pick xs dd ys l) p2 = r) : mCM c f n k dd l a b δ p = r := by
  unfold mCM M.bnd
  rw [h1]
  dsimp only
  rw [h2]
  dsimp only
  rw [if_pos h3]
  exact h4
theorem made_trips {us : List Trp} (h : ∀ t ∈ us, TOk t) (hl : us.length ≤ 100) (b : Option Sl) (q : Pn) : (mComp (iAny itL (mVar 0)) (gT (gs1 (gN 2) (gs1 (gN 3) (gs1 (gN 4) gs0)))) mYes (mNew 9 iTrip 3 0 [.int 1] [.p 0, .p 1, .p 2] (mCons (mVar 2) (mCons (mVar 3) (mCons (mVar 4) mNil))) mNil) [2, 3, 4]) [some (.d (.lst (us.map rowT))), b, none, none, none] q = some (.ok (.lst (us.map trD)), q) := by
  refine comp_all (xs := us) (a := rowT) (p1 := q) rfl (fun t ht => ⟨_, rfl, ?_⟩) (by omega)
  have := init_ok (h t ht)
  simp [mExcG, mNew, mMth, fnM, outOf, dsOf, sSeq, sRet, sIf, sSet, sBnd, sNx, sRaise, sPut, mTest, mTru, mNotT, mAndT, mOrT, mAndV, mOrV, mNotV, mBin, mUn, mCons, mNil, mCB, mCallK, mC, mVar, mTup, mLst, mIf, mChn, M.bnd, M.ret, M.opt, M.stuck, M.err, dB, dTru, pick, dCmpI, szOk, this, trD, wipeD]
theorem tour_of : ∀ {ts : List Trp}, Good ts → ∀ q, m_law_tour [.lst (ts.map rowT)] q = some (.ok (tourD ts), q) := by
  intro ts h q
  have hm := made_trips h.ok (by have := h.most; omega) none q
  have hl : (ts.map trD).length = ts.length := List.length_map _
  have test : ∀ (j : Nat), (mTest (mBin (dEq false) (mCB dLen (mCons (mVar 1) mNil)) (mC (.int j)))) [some (.d (.lst (ts.map rowT))), some (.d (.lst (ts.map trD))), none, none, none] q = some (.ok (ts.length == j), q) := fun j => by
    refine test_run (bn (x := .int ((ts.map trD).length : Int)) (y := .int j) (p1 := q) (p2 := q) rfl rfl ?_)
    rw [dEq_int, hl, Bool.false_xor]
    have : ((ts.length : Int) == (j : Int)) = (ts.length == j) := by rw [Bool.eq_iff_iff]; simp; omega
    rw [this]
  have g := good_new h q
  have h2 := h.two
  have h12 := h.most
  match ts, hm, test, g, h with
  | [a, b], hm, test, g, h => exact fn_ret rfl (seq_run (set_run hm) (seq_ret (if_yes (test 2) (ret_run (newS_run (p1 := q) (xs := [trD a, trD b]) (by kernel_rfl) rfl g)))))
  | [a, b, c], hm, test, g, h => exact fn_ret rfl (seq_run (set_run hm) (seq_run (if_no (test 2) rfl) (seq_ret (if_yes (test 3) (ret_run (newS_run (p1 := q) (xs := [trD a, trD b, trD c]) (by kernel_rfl) rfl g))))))
  | [a, b, c, d], hm, test, g, h => exact fn_ret rfl (seq_run (set_run hm) (seq_run (if_no (test 2) rfl) (seq_run (if_no (test 3) rfl) (ret_run (mif_yes (test 4) (newS_run (p1 := q) (xs := [trD a, trD b, trD c, trD d]) (by kernel_rfl) rfl g))))))
  | a :: b :: c :: d :: e :: r, hm, test, g, h =>
    have hr := read_run h.ok (by simp) h.most q
    rw [good_mk h] at hr
    exact fn_ret rfl (seq_run (set_run hm) (seq_run (if_no (test 2) rfl) (seq_run (if_no (test 3) rfl) (ret_run (mif_no (test 4) (cm_run (xs := [.str (Txt.join ", " ((a :: b :: c :: d :: e :: r).map told))]) (p1 := q) (p2 := q) (cons_run (callK_run (xs := [.lst ((a :: b :: c :: d :: e :: r).map rowT)]) (p1 := q) (p2 := q) rfl rfl ⟨rfl, rfl⟩ (words_run h.ok (by have := h.most; omega) q)) rfl) rfl ⟨rfl, rfl⟩ hr))))))
  | [], _, _, _, h => exact absurd h.two (by simp)
  | [_], _, _, _, h => exact absurd h.two (by simp)
theorem rows_of {ts : List Trp} (hl : ts.length ≤ 100) (Y : D) (q : Pn) : m_law_rows [.obj 10 [.tup (ts.map trD), Y]] q = some (.ok (.lst (ts.map rowT)), q) :=
  fn_ret rfl (ret_run (comp_all (xs := ts) (a := trD) (b := rowT) (p1 := q) rfl (fun t _ => ⟨_, rfl, by kernel_rfl⟩) (by omega)))
/-! ### equality -/
def eqT (t u : Trp) : Bool := t.1 == u.1 && (t.2.1 == u.2.1 && t.2.2 == u.2.2)
def eqL : List Trp → List Trp → Bool
  | [], [] => true
  | t :: r, u :: s => eqT t u && eqL r s
  | _, _ => false
theorem eqT_iff {t u : Trp} : eqT t u = true ↔ t = u := by
  obtain ⟨a, b, c⟩ := t
  obtain ⟨a', b', c'⟩ := u
  simp [eqT]
theorem eqL_self : ∀ l : List Trp, eqL l l = true
  | [] => rfl
  | t :: r => by simp [eqL, eqL_self r, eqT_iff.mpr rfl]
def rowP (t : Trp) : PyData := .tuple [.str t.1, .str t.2.1, .int t.2.2]
theorem rows_py : ∀ l : List Trp, toPyL (l.map rowT) = some (l.map rowP)
  | [] => rfl
  | t :: r => by
    have e : toPy (rowT t) = some (rowP t) := rfl
    simp only [List.map_cons, toPyL, e, rows_py r]
theorem rows_lay : ∀ l : List Trp, (∀ t ∈ l, TOk t) → PyData.canLayAll0 (l.map rowP) = true ∧ PyData.depthAll (l.map rowP) ≤ 5
  | [], _ => ⟨rfl, by simp [PyData.depthAll]⟩
  | t :: r, h => by
    obtain ⟨h1, h2⟩ := rows_lay r fun x hx => h x (List.mem_cons_of_mem _ hx)
    obtain ⟨P, e, c, d⟩ := row_py (h t List.mem_cons_self)
    have : P = rowP t := by
      have e' : toPy (rowT t) = some (rowP t) := rfl
      rw [e'] at e
      exact (Option.some.inj e).symm
    subst this
    refine ⟨by simp [PyData.canLayAll0, c, h1], ?_⟩
    simp only [List.map_cons, PyData.depthAll]
    omega
theorem rows_eqv : ∀ a b : List Trp, PyData.eqvAll (a.map rowP) (b.map rowP) = eqL a b
  | [], [] => by simp [PyData.eqvAll, eqL]
  | [], u :: s => by simp [PyData.eqvAll, eqL]
  | t :: r, [] => by simp [PyData.eqvAll, eqL]
  | t :: r, u :: s => by
    have ih := rows_eqv r s
    have e : PyData.eqv (rowP t) (rowP u) = eqT t u := by simp [rowP, PyData.eqv, PyData.eqvAll, eqT]
    simp only [List.map_cons, PyData.eqvAll, ih, e, eqL]
theorem rows_eq {a b : List Trp} (ha : ∀ t ∈ a, TOk t) (hb : ∀ t ∈ b, TOk t) (neg : Bool) (q : Pn) : dEq neg (.lst (a.map rowT)) (.lst (b.map rowT)) q = some (.ok (.bl (neg ^^ eqL a b)), q) := by
  have e1 : toPy (.lst (a.map rowT)) = some (.list (a.map rowP)) := by simp only [toPy, rows_py, Option.map_some]
  have e2 : toPy (.lst (b.map rowT)) = some (.list (b.map rowP)) := by simp only [toPy, rows_py, Option.map_some]
  obtain ⟨c1, d1⟩ := rows_lay a ha
  obtain ⟨c2, d2⟩ := rows_lay b hb
  have hs : (SeqAt.shaped (.list (a.map rowP)) && SeqAt.shaped (.list (b.map rowP))) = true := by
    simp [SeqAt.shaped, PyData.canLay0, PyData.depth, c1, c2]
    omega
  show (match toPy (.lst (a.map rowT)), toPy (.lst (b.map rowT)) with
    | some p, some q => if SeqAt.shaped p && SeqAt.shaped q then M.ret (D.bl (neg ^^ PyData.eqv p q)) else M.stuck
    | _, _ => M.stuck) q = _
  rw [e1, e2]
  dsimp only
  rw [if_pos hs]
  simp only [PyData.eqv, rows_eqv]
  rfl
theorem trip_eq {t u : Trp} (ht : TOk t) (hu : TOk u) (q : Pn) : mTrip___eq__ [trD t, trD u] q = some (.ok (.bl (eqT t u)), q) := by
  have h1 := rows_lay [t] (by simpa using ht)
  have h2 := rows_lay [u] (by simpa using hu)
  have hs : (SeqAt.shaped (rowP t) && SeqAt.shaped (rowP u)) = true := by
    have c1 := h1.1
    have c2 := h2.1
    have d1 := h1.2
    have d2 := h2.2
    simp [PyData.canLayAll0, PyData.depthAll] at c1 c2 d1 d2
    simp [SeqAt.shaped, c1, c2]
    omega
  have hd : dEq false (.tup [.str t.1, .str t.2.1, .int t.2.2]) (.tup [.str u.1, .str u.2.1, .int u.2.2]) q = some (.ok (.bl (eqT t u)), q) := by
    show (if (SeqAt.shaped (rowP t) && SeqAt.shaped (rowP u)) = true then M.ret (D.bl (false ^^ PyData.eqv (rowP t) (rowP u))) else M.stuck) q = _
    rw [if_pos hs]
    simp [rowP, M.ret, PyData.eqv, PyData.eqvAll, eqT]
  exact fn_ret rfl (seq_run (if_no (p1 := q) (by kernel_rfl) rfl) (ret_run (bn (x := .tup [.str t.1, .str t.2.1, .int t.2.2]) (y := .tup [.str u.1, .str u.2.1, .int u.2.2]) (p1 := q) (by kernel_rfl) (by kernel_rfl) hd)))
theorem teq_run : ∀ (a b : List Trp), (∀ t ∈ a, TOk t) → (∀ t ∈ b, TOk t) → ∀ q, teqGo (eqOO [(9, mTrip___eq__)]) (a.map trD) (b.map trD) q = some (.ok (eqL a b), q)
  | [], [], _, _, q => rfl
  | [], u :: s, _, _, q => rfl
  | t :: r, [], _, _, q => rfl
  | t :: r, u :: s, ha, hb, q => by
    have ht := ha t List.mem_cons_self
    have hu := hb u List.mem_cons_self
    have e := eqOO_run (tbl := [(9, mTrip___eq__)]) (c := 9) rfl rfl rfl (trip_eq ht hu q) (fun hf => by
      simp [flatSames, flatSame] at hf
      exact eqT_iff.mpr (by obtain ⟨h1, h2, h3⟩ := hf; exact Prod.ext h1 (Prod.ext h2 h3)))
    have e : eqOO [(9, mTrip___eq__)] (trD t) (trD u) q = some (.ok (eqT t u), q) := e
    show ((eqOO [(9, mTrip___eq__)] (trD t) (trD u)).bnd fun b => if b = true then teqGo (eqOO [(9, mTrip___eq__)]) (r.map trD) (s.map trD) else M.ret false) q = _
    unfold M.bnd
    rw [e]
    dsimp only
    cases hb2 : eqT t u with
    | true =>
      rw [if_pos rfl, teq_run r s (fun x hx => ha x (List.mem_cons_of_mem _ hx)) (fun x hx => hb x (List.mem_cons_of_mem _ hx)) q]
      simp [eqL, hb2]
    | false =>
      rw [if_neg (by decide)]
      simp [eqL, hb2, M.ret]
theorem tour_eq {a b : List Trp} (ha : ∀ t ∈ a, TOk t) (hb : ∀ t ∈ b, TOk t) (q : Pn) : mTour___eq__ [tourD a, tourD b] q = some (.ok (.bl (eqL a b)), q) := by
  refine fn_ret rfl (ret_run (andV_t (p1 := q) (by kernel_rfl) (bn (x := .tup (a.map trD)) (y := .tup (b.map trD)) (p1 := q) (p2 := q) rfl rfl ?_)))
  show ((teqGo (eqOO [(9, mTrip___eq__)]) (a.map trD) (b.map trD)).bnd fun b => M.ret (D.bl b)) q = _
  unfold M.bnd
  rw [teq_run a b ha hb q]
  rfl
/-! ### turned, begun later -/
theorem own1_run {c : Nat} {mf : List D → M D} {fs : List D} {d : D} {q : Pn} (h : mf [.obj c fs] q = some (.ok d, q)) : dOwn1 [(c, mf)] (.obj c fs) q = some (.ok d, q) := by
  have hl : List.lookup c [(c, mf)] = some mf := by simp [List.lookup]
  unfold dOwn1
  dsimp only
  rw [hl]
  dsimp only [M.calm]
  rw [h]
theorem trip_inv {t : Trp} (h : TOk t) (q : Pn) : mTrip___invert__ [trD t] q = some (.ok (trD (swap t)), q) := by
  have := init_ok (ok_swap h)
  have this : ∀ q, iTrip [.str t.2.1, .str t.1, .int t.2.2] q = some (.ok [.str t.2.1, .str t.1, .int t.2.2], q) := this
  simp [mExcG, mNew, mMth, fnM, outOf, dsOf, sSeq, sRet, sIf, sSet, sBnd, sNx, sRaise, sPut, mTest, mTru, mNotT, mAndT, mOrT, mAndV, mOrV, mNotV, mBin, mUn, mCons, mNil, mCB, mCallK, mC, mVar, mTup, mLst, mIf, mChn, M.bnd, M.ret, M.opt, M.stuck, M.err, dB, dTru, pick, dCmpI, szOk, mTrip___invert__, bTrip___invert__, dFld, trD, this, swap]
def inv (ts : List Trp) : List Trp := ts.reverse.map swap
theorem good_inv {ts : List Trp} (h : Good ts) : Good (inv ts) := (h.perm (List.reverse_perm ts)).swap
theorem inv_inv (ts : List Trp) : inv (inv ts) = ts := by
  unfold inv
  rw [← List.map_reverse, List.reverse_reverse, List.map_map]
  exact (List.map_congr_left fun _ _ => rfl).trans (List.map_id ts)
theorem tour_inv {ts : List Trp} (h : Good ts) (q : Pn) : mTour___invert__ [tourD ts] q = some (.ok (tourD (inv ts)), q) := by
  have hne : (ts.map trD).isEmpty = false := by
    have := h.two
    cases ts with
    | nil => simp at this
    | cons _ _ => rfl
  have hr : (mUn dRevA (mUn (dFld [(10, 0)] []) (mVar 0))) [some (.d (tourD ts)), none, none] q = some (.ok (.tup (ts.reverse.map trD)), q) := by
    refine un_run (x := .tup (ts.map trD)) (p1 := q) rfl ?_
    show (if (ts.map trD).isEmpty = true then M.stuck else M.ret (D.tup (ts.map trD).reverse)) q = _
    rw [hne, if_neg (by decide), ← List.map_reverse]; rfl
  refine fn_ret rfl (seq_run (set_run (d := .lst (ts.reverse.map fun t => trD (swap t))) (p' := q) (comp_all (xs := ts.reverse) (a := trD) (p1 := q) (iAny_t hr) (fun t ht => ⟨_, rfl, ?_⟩) (by rw [List.length_reverse]; have := h.most; omega))) (ret_run ?_))
  · exact un_run (x := trD t) (p1 := q) rfl (own1_run (trip_inv (h.ok t (List.mem_reverse.mp ht)) q))
  · have e : (ts.reverse.map fun t => trD (swap t)) = (inv ts).map trD := by unfold inv; rw [List.map_map]; rfl
    have g := good_inv h
    rw [e]
    exact newS_run (p1 := q) (xs := (inv ts).map trD) (star_run rfl) (sz_tr g.most) (good_new g q)
def rot (ts : List Trp) (j : Nat) : List Trp := ts.drop j ++ ts.take j
theorem rot_perm (ts : List Trp) (j : Nat) : (rot ts j).Perm ts := by
  unfold rot
  have := List.perm_append_comm (l₁ := ts.drop j) (l₂ := ts.take j)
  rw [List.take_append_drop] at this
  exact this
theorem cutd_take {xs : List D} {k : Nat} : cutD xs none (some (k : Int)) = xs.take k := by
  unfold cutD
  rw [HT.sIx_none, HT.sIx_nat, List.drop_zero, Nat.sub_zero]
  rcases Nat.le_total k xs.length with h | h
  · rw [Nat.min_eq_left h]
  · rw [Nat.min_eq_right h, List.take_length, List.take_of_length_le h]
theorem cutd_drop {xs : List D} {k : Nat} : cutD xs (some (k : Int)) none = xs.drop k := by
  unfold cutD
  rw [HT.sIx_none, HT.sIx_nat]
  rcases Nat.le_total k xs.length with h | h
  · rw [Nat.min_eq_left h, List.take_of_length_le (by rw [List.length_drop]; omega)]
  · rw [Nat.min_eq_right h, Nat.sub_self, List.take_zero, List.drop_of_length_le h]
def at_ (k : Int) (n : Nat) : Nat := (k % (n : Int)).toNat
theorem at_eq {k : Int} {n : Nat} (h : 0 < n) : k % (n : Int) = (at_ k n : Int) ∧ at_ k n < n := by
  have h0 : 0 ≤ k % (n : Int) := Int.emod_nonneg _ (by omega)
  have h1 : k % (n : Int) < n := Int.emod_lt_of_pos _ (by omega)
  unfold at_
  exact ⟨by omega, by omega⟩
theorem tour_shift {ts : List Trp} (h : Good ts) (k : Int) (q : Pn) : mTour___rshift__ [tourD ts, .int k] q = some (.ok (tourD (rot ts (at_ k ts.length))), q) := by
  have h2 := h.two
  have h12 := h.most
  obtain ⟨e1, e2⟩ := at_eq (k := k) (n := ts.length) (by omega)
  have hl : (ts.map trD).length = ts.length := List.length_map _
  have hi : mis_integer [.int k] q = some (.ok (.bl true), q) := by kernel_rfl
  have g := h.perm (rot_perm ts (at_ k ts.length))
  have hm : dMod (.int k) (.int ((ts.map trD).length : Int)) q = some (.ok (.int (at_ k ts.length : Int)), q) := by
    show (if decide ((0 : Int) < ((ts.map trD).length : Int)) = true then M.ret (D.int (k % ((ts.map trD).length : Int))) else M.stuck) q = _
    rw [hl, if_pos (by rw [decide_eq_true_eq]; omega), e1]; rfl
  refine fn_ret rfl (seq_run (if_no (p1 := q) (notT_run (b := true) (tru_run (x := .bl true) (p1 := q) (callK_run (xs := [.int k]) rfl rfl ⟨rfl, rfl⟩ hi) rfl)) rfl) (seq_run (set_run (d := .int (at_ k ts.length : Int)) (p' := q) (bn (x := .int k) (y := .int ((ts.map trD).length : Int)) (p1 := q) (p2 := q) rfl (cb_run (xs := [.tup (ts.map trD)]) (p1 := q) rfl rfl) hm)) (seq_run (set_run (d := .tup ((rot ts (at_ k ts.length)).map trD)) (p' := q) (bn (x := .tup ((ts.drop (at_ k ts.length)).map trD)) (y := .tup ((ts.take (at_ k ts.length)).map trD)) (p1 := q) (p2 := q) ?_ ?_ ?_)) (ret_run (newS_run (p1 := q) (xs := (rot ts (at_ k ts.length)).map trD) rfl (sz_tr g.most) (good_new g q))))))
  · show M.ret (D.tup (cutD (ts.map trD) (some (at_ k ts.length : Int)) none)) q = _
    rw [cutd_drop, ← List.map_drop]; rfl
  · show M.ret (D.tup (cutD (ts.map trD) none (some (at_ k ts.length : Int)))) q = _
    rw [cutd_take, ← List.map_take]; rfl
  · show (if szOk (((ts.drop (at_ k ts.length)).map trD).length + ((ts.take (at_ k ts.length)).map trD).length) = true then M.ret (D.tup ((ts.drop (at_ k ts.length)).map trD ++ (ts.take (at_ k ts.length)).map trD)) else M.stuck) q = _
    rw [if_pos, ← List.map_append]
    · rfl
    · unfold szOk
      rw [List.length_map, List.length_map, List.length_drop, List.length_take, decide_eq_true_eq]
      omega
theorem rot_back (ts : List Trp) {a : Nat} (h : a < ts.length) {b : Nat} (hb : (a + b) % ts.length = 0) (hb2 : b < ts.length) : rot (rot ts a) b = ts := by
  rcases Nat.eq_zero_or_pos a with rfl | ha
  · have : b = 0 := by rw [Nat.zero_add, Nat.mod_eq_of_lt hb2] at hb; exact hb
    subst this
    simp [rot]
  · have hab : a + b = ts.length := by
      rcases Nat.lt_or_ge (a + b) ts.length with z | z
      · rw [Nat.mod_eq_of_lt z] at hb; omega
      · rw [Nat.mod_eq_sub_mod z, Nat.mod_eq_of_lt (by omega)] at hb; omega
    have hd : (ts.drop a).length = b := by rw [List.length_drop]; omega
    unfold rot
    rw [← hd, List.drop_left, List.take_left, List.take_append_drop]
theorem at_back {k : Int} {n : Nat} (h : 0 < n) : (at_ k n + at_ (0 - k) n) % n = 0 := by
  obtain ⟨e1, _⟩ := at_eq (k := k) h
  obtain ⟨e2, _⟩ := at_eq (k := 0 - k) h
  have : ((at_ k n : Int) + (at_ (0 - k) n : Int)) % (n : Int) = 0 := by
    rw [← e1, ← e2, ← Int.add_emod]
    have : k + (0 - k) = 0 := by omega
    rw [this, Int.zero_emod]
  have : (((at_ k n + at_ (0 - k) n) % n : Nat) : Int) = 0 := this
  omega
end Lw

namespace Lw
open PySem ME
theorem calm_run {α : Type} {m : M α} {a : α} {q p' : Pn} (h : m q = some (.ok a, p')) : m.calm q = some (.ok a, p') := by
  unfold M.calm
  rw [h]
theorem ownE_run {a b : List Trp} (ha : ∀ t ∈ a, TOk t) (hb : ∀ t ∈ b, TOk t) (q : Pn) : (dOwnC [(10, mTour___eq__), (9, mTrip___eq__)] [10, 9] (dEq false)) (tourD a) (tourD b) q = some (.ok (.bl (eqL a b)), q) :=
  calm_run (m := mTour___eq__ [tourD a, tourD b]) (tour_eq ha hb q)
theorem ownN_run {a b : List Trp} (ha : ∀ t ∈ a, TOk t) (hb : ∀ t ∈ b, TOk t) (q : Pn) : (dOwnC ([(10, mTour___eq__), (9, mTrip___eq__)].map fun q => (q.1, notM q.2)) [10, 9] (dEq true)) (tourD a) (tourD b) q = some (.ok (.bl (!eqL a b)), q) := by
  refine calm_run (m := ME.notM mTour___eq__ [tourD a, tourD b]) ?_
  unfold ME.notM M.bnd
  rw [tour_eq ha hb q]
  rfl
theorem bl_same (b : Bool) (q : Pn) : dEq true (.bl b) (.bl b) q = some (.ok (.bl false), q) := by cases b <;> kernel_rfl
/-! ### the texts -/
theorem emp_app (x : Str) : Str.empty ++ x = x := TL.ext_tl (by rw [TL.tl_append]; rfl)
theorem join_run {e : EX} {r : List EX} {acc y : Str} {δ : DS} {p p1 : Pn} {z : Option (Out D × Pn)} (h1 : e δ p = some (.ok (.str y), p1)) (h2 : szOk (acc ++ y).length = true) (h3 : mJoin r (acc ++ y) δ p1 = z) : mJoin (e :: r) acc δ p = z := by
  unfold mJoin M.bnd
  rw [h1]
  dsimp only
  rw [if_pos h2]
  exact h3
theorem fmt_str {x : Str} (h : x.length ≤ 1000) (q : Pn) : dFmt (.str x) q = some (.ok (.str x), q) := by
  show (if szOk x.length = true then M.ret (D.str x) else M.stuck) q = _
  unfold szOk
  rw [if_pos (by simpa using (show x.length ≤ 16777216 by omega))]
  rfl
theorem fmt_int {k : Nat} (h : k < 100) (q : Pn) : dFmt (.int k) q = some (.ok (.str (num k)), q) := by
  show (if decide ((k : Int).natAbs.log2 < 1920) then M.ret (D.str (toString (k : Int))) else M.stuck) q = _
  rw [log_lt k h]
  rfl
theorem trip_str {t : Trp} (h : TOk t) (q : Pn) : mTrip___str__ [trD t] q = some (.ok (.str (told t)), q) := by
  have l1 : (">" : Str).length = 1 := by decide
  have l2 : (" " : Str).length = 1 := by decide
  have l0 : Str.empty.length = 0 := rfl
  have l3 := num_len _ (nn_lt h).1
  have l4 := h.s.l
  have l5 := h.g.l
  have e : told t = ((((Str.empty ++ t.1) ++ ">") ++ t.2.1) ++ " ") ++ num (nn t) := by rw [emp_app]; rfl
  rw [e]
  have ei : dFmt (.int t.2.2) q = some (.ok (.str (num (nn t))), q) := by
    rw [(nn_lt h).2]
    exact fmt_int (nn_lt h).1 q
  refine fn_ret rfl (ret_run (join_run (un_run (x := .str t.1) (p1 := q) (by kernel_rfl) (fmt_str (by omega) q)) ?_ (join_run (p1 := q) rfl ?_ (join_run (un_run (x := .str t.2.1) (p1 := q) (by kernel_rfl) (fmt_str (by omega) q)) ?_ (join_run (p1 := q) rfl ?_ (join_run (un_run (x := .int t.2.2) (p1 := q) (by kernel_rfl) ei) ?_ rfl))))))
  all_goals (unfold szOk; simp only [PySem.Str.length_append, decide_eq_true_eq]; omega)
abbrev txt (ts : List Trp) : Str := Txt.join ", " (ts.map told)
theorem tour_str {ts : List Trp} (h : ∀ t ∈ ts, TOk t) (hl : ts.length ≤ 1000) (q : Pn) : mTour___str__ [tourD ts] q = some (.ok (.str (txt ts)), q) := by
  have hs : strsOf (ts.map fun t => D.str (told t)) = some (ts.map told) := by
    have := strs_map (ts.map told)
    rw [List.map_map] at this
    exact this
  refine fn_ret rfl (ret_run (sm_run (a := ", ") (p1 := q) rfl (cons_run (p1 := q) (comp_all (xs := ts) (a := trD) (b := fun t => D.str (told t)) (p1 := q) (iAny_t rfl) (fun t ht => ⟨_, rfl, un_run (x := trD t) (p1 := q) rfl ?_⟩) (by omega)) rfl) ?_))
  · show (((mTrip___str__ [trD t]).calm).bnd fun d => match d with
      | .str y => if szOk y.length then M.ret (D.str y) else M.stuck
      | _ => M.stuck) q = _
    unfold M.bnd
    rw [calm_run (trip_str (h t ht) q)]
    dsimp only
    have := told_len (h t ht)
    rw [if_pos (by unfold szOk; rw [decide_eq_true_eq]; omega)]
    rfl
  · dsimp only [dJoin]
    rw [hs]
    dsimp only
    rw [if_pos]
    · rfl
    · have := sum_len ts h
      have l1 : (", " : Str).length = 2 := by decide
      rw [decide_eq_true_eq, List.length_map, l1]
      omega
theorem str_own {ts : List Trp} (h : ∀ t ∈ ts, TOk t) (hl : ts.length ≤ 1000) (q : Pn) : dStrO [(10, mTour___str__), (9, mTrip___str__)] [tourD ts] q = some (.ok (.str (txt ts)), q) := by
  show (((mTour___str__ [tourD ts]).calm).bnd fun d => match d with
      | .str y => M.ret (D.str y)
      | _ => M.stuck) q = _
  unfold M.bnd
  rw [calm_run (tour_str h hl q)]
  rfl
/-! ### one text, one tour -/
theorem num_inj {a b : Nat} (ha : a < 100) (hb : b < 100) (h : num a = num b) : a = b := by
  have e1 := cnt_num a ha ⟨[], 0, 0⟩
  have e2 := cnt_num b hb ⟨[], 0, 0⟩
  rw [h, e2] at e1
  simp at e1
  omega
theorem comma_inj {a b : Nat} (ha : a < 100) (hb : b < 100) (h : num a ++ "," = num b ++ ",") : a = b := by
  have e1 := (cut_num a ha).2
  have e2 := (cut_num b hb).2
  rw [h, e2] at e1
  exact (num_inj hb ha e1).symm
theorem ends_inj {t u : Trp} (ht : TOk t) (hu : TOk u) (h : ends t = ends u) : t.1 = u.1 ∧ t.2.1 = u.2.1 := by
  have ey : TL.tl (">" : Str) = 62 :: [] := by decide +kernel
  have h1 : Txt.partition (ends t) ">" = (t.1, (">" : Str), t.2.1) := TL.partition_app ey (nm_free ht.s (by decide))
  have h2 : Txt.partition (ends u) ">" = (u.1, (">" : Str), u.2.1) := TL.partition_app ey (nm_free hu.s (by decide))
  rw [h, h2] at h1
  simp only [Prod.mk.injEq] at h1
  exact ⟨h1.1.symm, h1.2.2.symm⟩
theorem trip_inj {t u : Trp} (ht : TOk t) (hu : TOk u) (h1 : ends t = ends u) (h2 : nn t = nn u) : t = u := by
  obtain ⟨a, b⟩ := ends_inj ht hu h1
  have c : t.2.2 = u.2.2 := by rw [(nn_lt ht).2, (nn_lt hu).2, h2]
  exact Prod.ext a (Prod.ext b c)
theorem wl_inj : ∀ (a b : List Trp), (∀ t ∈ a, TOk t) → (∀ t ∈ b, TOk t) → wl a = wl b → a = b
  | [], [], _, _, _ => rfl
  | [], u :: s, _, _, h => by
    have := congrArg List.length h
    rw [wl_len, wl_len] at this
    simp at this
  | t :: r, [], _, _, h => by
    have := congrArg List.length h
    rw [wl_len, wl_len] at this
    simp at this
  | [t], [u], ha, hb, h => by
    have ht := ha t (by simp)
    have hu := hb u (by simp)
    simp only [wl, List.cons.injEq, and_true] at h
    rw [trip_inj ht hu h.1 (num_inj (nn_lt ht).1 (nn_lt hu).1 h.2)]
  | [t], u :: v :: s, _, _, h => by
    have := congrArg List.length h
    rw [wl_len, wl_len] at this
    simp only [List.length_cons, List.length_nil] at this
    omega
  | t :: t2 :: r, [u], _, _, h => by
    have := congrArg List.length h
    rw [wl_len, wl_len] at this
    simp only [List.length_cons, List.length_nil] at this
    omega
  | t :: t2 :: r, u :: v :: s, ha, hb, h => by
    have ht := ha t (by simp)
    have hu := hb u (by simp)
    have e1 : wl (t :: t2 :: r) = ends t :: (num (nn t) ++ ",") :: wl (t2 :: r) := rfl
    have e2 : wl (u :: v :: s) = ends u :: (num (nn u) ++ ",") :: wl (v :: s) := rfl
    rw [e1, e2] at h
    simp only [List.cons.injEq] at h
    have ih := wl_inj (t2 :: r) (v :: s) (fun x hx => ha x (List.mem_cons_of_mem _ hx)) (fun x hx => hb x (List.mem_cons_of_mem _ hx)) h.2.2
    rw [trip_inj ht hu h.1 (comma_inj (nn_lt ht).1 (nn_lt hu).1 h.2.1), ih]
theorem eqL_of : ∀ (a b : List Trp), eqL a b = true → a = b
  | [], [], _ => rfl
  | [], _ :: _, h => by simp [eqL] at h
  | _ :: _, [], h => by simp [eqL] at h
  | t :: r, u :: s, h => by
    simp only [eqL, Bool.and_eq_true] at h
    rw [eqT_iff.mp h.1, eqL_of r s h.2]
theorem txt_eq {a b : List Trp} (ha : Good a) (hb : Good b) : (txt a == txt b) = eqL a b := by
  have na : a ≠ [] := fun z => by have := ha.two; rw [z] at this; simp at this
  have nb : b ≠ [] := fun z => by have := hb.two; rw [z] at this; simp at this
  by_cases h : a = b
  · subst h
    rw [eqL_self]
    simp
  · have e1 : eqL a b = false := by
      rw [Bool.eq_false_iff]
      intro z
      exact h (eqL_of a b z)
    rw [e1, beq_eq_false_iff_ne]
    intro z
    have s1 := told_split ha.ok na
    have s2 := told_split hb.ok nb
    have z : Txt.join ", " (a.map told) = Txt.join ", " (b.map told) := z
    rw [z, s2] at s1
    exact h (wl_inj a b ha.ok hb.ok s1.symm)
end Lw

namespace Lw
open PySem ME
theorem good_read {ts : List Trp} (h : Good ts) (q : Pn) : mTour_read [.cls 10, .str (txt ts)] q = some (.ok (tourD ts), q) := by
  have hn : ts ≠ [] := fun z => by have := h.two; rw [z] at this; simp at this
  rw [read_run h.ok hn h.most q, good_mk h]
theorem at_one {n : Nat} (h : 2 ≤ n) : at_ 1 n = 1 := by
  unfold at_
  rw [Int.emod_eq_of_lt (by omega) (by omega)]
  rfl
theorem turned {us : List Trp} (hl : us.length ≤ 100) {δ : DS} {q : Pn} {e : EX} (he : (mUn dRevA e) δ q = some (.ok (.lst (us.reverse.map rowT)), q)) (hw : ∀ t : Trp, gT (gs1 (gN 9) (gs1 (gN 10) (gs1 (gN 11) gs0))) (rowT t) (wipeD δ [9, 10, 11]) = some (((wipeD δ [9, 10, 11]).set 9 (some (.d (.str t.1)))).set 10 (some (.d (.str t.2.1))) |>.set 11 (some (.d (.int t.2.2)))))
    (ht : ∀ t : Trp, (mTup (mCons (mVar 10) (mCons (mVar 9) (mCons (mVar 11) mNil)))) (((wipeD δ [9, 10, 11]).set 9 (some (.d (.str t.1)))).set 10 (some (.d (.str t.2.1))) |>.set 11 (some (.d (.int t.2.2)))) q = some (.ok (rowT (swap t)), q)) :
    (mComp (iAny itL (mUn dRevA e)) (gT (gs1 (gN 9) (gs1 (gN 10) (gs1 (gN 11) gs0)))) mYes (mTup (mCons (mVar 10) (mCons (mVar 9) (mCons (mVar 11) mNil)))) [9, 10, 11]) δ q = some (.ok (.lst ((inv us).map rowT)), q) := by
  have e1 : (inv us).map rowT = us.reverse.map fun t => rowT (swap t) := by unfold inv; rw [List.map_map]; rfl
  rw [e1]
  exact comp_all (xs := us.reverse) (a := rowT) (p1 := q) (iAny_l he) (fun t _ => ⟨_, hw t, ht t⟩) (by rw [List.length_reverse]; omega)
theorem heard_5 {d e : D} {act : M D} {q q' : Pn} (h : act q = some (.ex 5 [d, e], q')) : m_law_heard act q = some (.ok (.tup [d, e]), q') := by
  rw [← u_law_heard 0 act q]
  refine (heard_u (i := 2) (j := 0) (fun _ _ => rfl) (Kd := fun d => .inl (List.set _ 1 (some (.d d)))) (fun _ _ _ => rfl) 0 act q).trans ?_
  unfold heardR
  rw [h]
  kernel_rfl
theorem read_no {d : D} (h : ∀ q, dIsi isT [d, .ty "str"] q = some (.ok (.bl false), q)) (q : Pn) : mTour_read [.cls 10, d] q = some (.ex 5 [.int 0, .int 0], q) := by
  refine fn_er (δ' := [some (.d (.cls 10)), some (.d d), none]) rfl (seq_er (if_yes (p1 := q) (notT_run (b := false) (tru_run (x := .bl false) (p1 := q) (cb_run (xs := [d, .ty "str"]) (p1 := q) rfl (h q)) rfl)) ?_))
  kernel_rfl
def odds (ts : List Trp) : List D := [.non, .int 0, .bl true, .lst [.str (txt ts)], .tup [.str (txt ts)], .dct [], tourD ts, .int (10 ^ 30)]
theorem odds_no {ts : List Trp} : ∀ d ∈ odds ts, ∀ q, dIsi isT [d, .ty "str"] q = some (.ok (.bl false), q) := by
  intro d hd
  unfold odds at hd
  simp only [List.mem_cons, List.not_mem_nil, or_false] at hd
  rcases hd with rfl | rfl | rfl | rfl | rfl | rfl | rfl | rfl
  · exact fun q => by kernel_rfl
  · exact fun q => by kernel_rfl
  · exact fun q => by kernel_rfl
  · exact fun q => by kernel_rfl
  · exact fun q => by kernel_rfl
  · exact fun q => by kernel_rfl
  · exact fun q => by kernel_rfl
  · exact fun q => by kernel_rfl
abbrev dsR (ts : List Trp) (a2 a3 a4 a5 a6 a7 a8 : Option Sl) : DS := [some (.d .pen), some (.d (.lst (ts.map rowT))), a2, a3, a4, a5, a6, a7, a8, none, none, none]
abbrev dsS (ts : List Trp) (a4 a5 a6 a7 a8 : Option Sl) : DS := dsR ts (some (.d (tourD ts))) (some (.d (.str (txt ts)))) a4 a5 a6 a7 a8
def tA : TX := (mTest (mBin (dEq true) (mCB (dStrO [(10, mTour___str__), (9, mTrip___str__)]) (mCons (mVar 2) mNil)) (mVar 3)))
def tB : TX := (mTest (mBin (dOwnC ([(10, mTour___eq__), (9, mTrip___eq__)].map fun q => (q.1, notM q.2)) [10, 9] (dEq true)) (mCM 10 mTour_read 1 0 [] [.p 0] (mCons (mVar 3) mNil) mNil) (mVar 2)))
def tC : TX := (mTest (mBin (dOwnC ([(10, mTour___eq__), (9, mTrip___eq__)].map fun q => (q.1, notM q.2)) [10, 9] (dEq true)) (mCM 10 mTour_read 0 1 [] [.k 0] mNil (mCons (mVar 3) mNil)) (mVar 2)))
def tD : TX := (mTest (mBin (dEq true) (mCallK m_law_rows 1 0 [] [.p 0] (mCons (mVar 4) mNil) mNil) (mBin dAdd (mSlA (mVar 1) (some (mC (.int 1))) none) (mSlA (mVar 1) none (some (mC (.int 1)))))))
def tE' : TX := (mTest (mBin (dEq true) (mCB (dStrO [(10, mTour___str__), (9, mTrip___str__)]) (mCons (mUn (dOwn1 [(10, mTour___invert__)]) (mVar 2)) mNil)) (mCallK m_law_words 1 0 [] [.p 0] (mCons (mVar 5) mNil) mNil)))
def tF' : TX := (mTest (mBin (dEq true) (mBin (dEq false) (mCB (dStrO [(10, mTour___str__), (9, mTrip___str__)]) (mCons (mVar 7) mNil)) (mVar 3)) (mBin (dOwnC [(10, mTour___eq__), (9, mTrip___eq__)] [10, 9] (dEq false)) (mVar 7) (mVar 2))))
def tG' : TX := (mTest (mBin (dEq true) (mBin (dEq false) (mCB (dStrO [(10, mTour___str__), (9, mTrip___str__)]) (mCons (mVar 7) mNil)) (mVar 3)) (mBin (dOwnC [(10, mTour___eq__), (9, mTrip___eq__)] [10, 9] (dEq false)) (mVar 6) (mVar 1))))
theorem pow30 (q : Pn) : dPow (.int 10) (.int 30) q = some (.ok (.int (10 ^ 30)), q) := by kernel_rfl
theorem right_run {ts : List Trp} (h : Good ts) : Hd 91 (m_law_right [.pen, .lst (ts.map rowT)]) (fun d => d = .bl true) := by
  intro b p hp hb
  have h2 := h.two
  have h12 := h.most
  have gi := good_inv h
  have gr := h.perm (rot_perm ts 1)
  have s1 : (sPar2 2 3 (mCons (mCallK m_law_tour 1 0 [] [.p 0] (mCons (mVar 1) mNil) mNil) (mCons (mCallK m_law_words 1 0 [] [.p 0] (mCons (mVar 1) mNil) mNil) mNil))) (dsOf 12 [.pen, .lst (ts.map rowT)]) p = some (.nx (dsS ts none none none none none), p) :=
    par2_run (cons_run (callK_run (xs := [.lst (ts.map rowT)]) rfl rfl ⟨rfl, rfl⟩ (tour_of h p)) (cons_run (callK_run (xs := [.lst (ts.map rowT)]) rfl rfl ⟨rfl, rfl⟩ (words_run h.ok (by omega) p)) rfl))
  have hA : tA (dsS ts none none none none none) p = some (.ok false, p) := by
    refine test_run (bn (x := .str (txt ts)) (y := .str (txt ts)) (p1 := p) (p2 := p) (cb_run (xs := [tourD ts]) (p1 := p) rfl (str_own h.ok (by omega) p)) rfl ?_)
    rw [dNe_strs]; simp
  have hB : tB (dsS ts none none none none none) p = some (.ok false, p) := by
    refine test_run (bn (x := tourD ts) (y := tourD ts) (p1 := p) (p2 := p) (cm_run (xs := [.str (txt ts)]) rfl rfl ⟨rfl, rfl⟩ (good_read h p)) rfl ?_)
    rw [ownN_run h.ok h.ok, eqL_self]; rfl
  have hC : tC (dsS ts none none none none none) p = some (.ok false, p) := by
    refine test_run (bn (x := tourD ts) (y := tourD ts) (p1 := p) (p2 := p) (cm_run (xs := []) (ys := [.str (txt ts)]) rfl rfl ⟨rfl, rfl⟩ (good_read h p)) rfl ?_)
    rw [ownN_run h.ok h.ok, eqL_self]; rfl
  have hsh := tour_shift h 1 p
  rw [at_one h2] at hsh
  have s2 : (sPar2 4 5 (mCons (mCM 10 mTour_read 1 0 [] [.p 0] (mCons (mCB (dStrO [(10, mTour___str__), (9, mTrip___str__)]) (mCons (mBin (dBop [(10, mTour___rshift__)] [10, 9]) (mVar 2) (mC (.int 1))) mNil)) mNil) mNil) (mCons (mComp (iAny itL (mUn dRevA (mVar 1))) (gT (gs1 (gN 9) (gs1 (gN 10) (gs1 (gN 11) gs0)))) mYes (mTup (mCons (mVar 10) (mCons (mVar 9) (mCons (mVar 11) mNil)))) [9, 10, 11]) mNil))) (dsS ts none none none none none) p = some (.nx (dsS ts (some (.d (tourD (rot ts 1)))) (some (.d (.lst ((inv ts).map rowT)))) none none none), p) := by
    refine par2_run (cons_run (p1 := p) (cm_run (xs := [.str (txt (rot ts 1))]) (p1 := p) (p2 := p) (cons_run (p1 := p) (cb_run (xs := [tourD (rot ts 1)]) (p1 := p) (cons_run (p1 := p) (bn (x := tourD ts) (y := .int 1) (p1 := p) (p2 := p) rfl rfl hsh) rfl) (str_own gr.ok (by have := gr.most; omega) p)) rfl) rfl ⟨rfl, rfl⟩ (good_read gr p)) (cons_run (p1 := p) (turned (us := ts) (by omega) (un_run (x := .lst (ts.map rowT)) (p1 := p) rfl ?_) (fun t => rfl) (fun t => rfl)) rfl))
    show M.ret (D.lst (ts.map rowT).reverse) p = _
    rw [← List.map_reverse]; rfl
  have hD : tD (dsS ts (some (.d (tourD (rot ts 1)))) (some (.d (.lst ((inv ts).map rowT)))) none none none) p = some (.ok false, p) := by
    refine test_run (bn (x := .lst ((rot ts 1).map rowT)) (y := .lst ((rot ts 1).map rowT)) (p1 := p) (p2 := p) (callK_run (xs := [tourD (rot ts 1)]) rfl rfl ⟨rfl, rfl⟩ (rows_of (by have := gr.most; omega) _ p)) (bn (x := .lst ((ts.drop 1).map rowT)) (y := .lst ((ts.take 1).map rowT)) (p1 := p) (p2 := p) ?_ ?_ ?_) ?_)
    · show M.ret (D.lst (cutD (ts.map rowT) (some ((1 : Nat) : Int)) none)) p = _
      rw [cutd_drop, ← List.map_drop]; rfl
    · show M.ret (D.lst (cutD (ts.map rowT) none (some ((1 : Nat) : Int)))) p = _
      rw [cutd_take, ← List.map_take]; rfl
    · rw [dAdd_l (by rw [List.length_map, List.length_map, List.length_drop, List.length_take]; omega), ← List.map_append]
      rfl
    · rw [rows_eq gr.ok gr.ok, eqL_self]; rfl
  have hE : tE' (dsS ts (some (.d (tourD (rot ts 1)))) (some (.d (.lst ((inv ts).map rowT)))) none none none) p = some (.ok false, p) := by
    refine test_run (bn (x := .str (txt (inv ts))) (y := .str (txt (inv ts))) (p1 := p) (p2 := p) (cb_run (xs := [tourD (inv ts)]) (p1 := p) (cons_run (p1 := p) (un_run (x := tourD ts) (p1 := p) rfl (own1_run (tour_inv h p))) rfl) (str_own gi.ok (by have := gi.most; omega) p)) (callK_run (xs := [.lst ((inv ts).map rowT)]) rfl rfl ⟨rfl, rfl⟩ (words_run gi.ok (by have := gi.most; omega) p)) ?_)
    rw [dNe_strs]; simp
  obtain ⟨_, p1, e1, ⟨us, rfl, hP, hl⟩, q1⟩ := plan_run (most := 6) (by decide) (by decide) b p hp (by omega)
  have gu := plan_good hP (by omega)
  obtain ⟨odd, p2, e2, m2, q2⟩ := hd_pick (l := odds ts) (show 0 < 8 by decide) (show 8 < 1000 by decide) _ p1 q1 (by omega)
  have hstr : (mBin (dEq false) (mCB (dStrO [(10, mTour___str__), (9, mTrip___str__)]) (mCons (mVar 7) mNil)) (mVar 3)) (dsS ts (some (.d (tourD (rot ts 1)))) (some (.d (.lst ((inv ts).map rowT)))) (some (.d (.lst (us.map rowT)))) (some (.d (tourD us))) none) p1 = some (.ok (.bl (eqL us ts)), p1) := by
    refine bn (x := .str (txt us)) (y := .str (txt ts)) (p1 := p1) (p2 := p1) (cb_run (xs := [tourD us]) (p1 := p1) rfl (str_own gu.ok (by have := gu.most; omega) p1)) rfl ?_
    rw [dEq_strs, txt_eq gu h]
  have hF : tF' (dsS ts (some (.d (tourD (rot ts 1)))) (some (.d (.lst ((inv ts).map rowT)))) (some (.d (.lst (us.map rowT)))) (some (.d (tourD us))) none) p1 = some (.ok false, p1) :=
    test_run (bn (x := .bl (eqL us ts)) (y := .bl (eqL us ts)) (p1 := p1) (p2 := p1) hstr (bn (x := tourD us) (y := tourD ts) (p1 := p1) (p2 := p1) rfl rfl (ownE_run gu.ok h.ok p1)) (bl_same _ p1))
  have hG : tG' (dsS ts (some (.d (tourD (rot ts 1)))) (some (.d (.lst ((inv ts).map rowT)))) (some (.d (.lst (us.map rowT)))) (some (.d (tourD us))) none) p1 = some (.ok false, p1) := by
    refine test_run (bn (x := .bl (eqL us ts)) (y := .bl (eqL us ts)) (p1 := p1) (p2 := p1) hstr (bn (x := .lst (us.map rowT)) (y := .lst (ts.map rowT)) (p1 := p1) (p2 := p1) rfl rfl ?_) (bl_same _ p1))
    show dEq false (.lst (us.map rowT)) (.lst (ts.map rowT)) p1 = _
    rw [rows_eq gu.ok h.ok, Bool.false_xor]
  refine ⟨.bl true, p2, ?_, rfl, pnb_mono q2 (by omega)⟩
  refine fn_ret rfl (seq_run s1 (seq_run (if_no (orT_ff hA (orT_ff hB hC)) rfl) (seq_run s2 (seq_run (if_no (orT_ff hD hE) rfl) (seq_run (set_run (callK_run (xs := [.pen, .int 6]) rfl rfl ⟨rfl, rfl⟩ e1)) (seq_run (set_run (callK_run (xs := [.lst (us.map rowT)]) rfl rfl ⟨rfl, rfl⟩ (tour_of gu p1))) (seq_run (if_no (orT_ff hF hG) rfl) (seq_run (set_run (d := odd) (p' := p2) (callK_run (xs := [.pen, .lst (odds ts)]) (p1 := p1) (p2 := p1) (cons_run (p1 := p1) rfl (cons_run (p1 := p1) (lst_run (xs := odds ts) (cons_run (p1 := p1) rfl (cons_run (p1 := p1) rfl (cons_run (p1 := p1) rfl (cons_run (p1 := p1) (by kernel_rfl) (cons_run (p1 := p1) (by kernel_rfl) (cons_run (p1 := p1) rfl (cons_run (p1 := p1) rfl (cons_run (p1 := p1) (bn (x := .int 10) (y := .int 30) (p1 := p1) (p2 := p1) rfl rfl (pow30 p1)) rfl)))))))) rfl) rfl)) rfl ⟨rfl, rfl⟩ e2)) (ret_run (bn (x := .tup [.int 0, .int 0]) (y := .tup [.int 0, .int 0]) (p1 := p2) (p2 := p2) (heard_5 ?_) (by kernel_rfl) (by kernel_rfl)))))))))))
  exact cm_run (xs := [odd]) (p1 := p2) (p2 := p2) rfl rfl ⟨rfl, rfl⟩ (read_no (odds_no odd m2) p2)
end Lw

namespace Lw
open PySem ME
abbrev dsT (a2 a3 : Option Sl) : DS := [none, some (.d .pen), a2, a3]
def body : SX := (sIf (mNotT (mTru (mCallK m_law_right 2 0 [] [.p 0, .p 1] (mCons (mVar 1) (mCons (mCallK m_law_plan 2 0 [] [.p 0, .p 1] (mCons (mVar 1) (mCons (mC (.int 12)) mNil)) mNil) mNil)) mNil))) (sRet (mC (.bl false))) sNx)
theorem turnL_run {b : Int} {p : Pn} (hp : PnB b p) (hb : b + 181 ≤ 1000000) (a2 : Option Sl) : ∃ p', body (dsT a2 none) p = some (.nx (dsT a2 none), p') ∧ PnB (b + 181) p' := by
  obtain ⟨_, p1, e1, ⟨ts, rfl, hP, hl⟩, q1⟩ := plan_run (most := 12) (by decide) (by decide) b p hp (by omega)
  have g := plan_good hP hl
  obtain ⟨_, p2, e2, rfl, q2⟩ := right_run g _ p1 q1 (by omega)
  refine ⟨p2, ?_, pnb_mono q2 (by omega)⟩
  exact if_no (notT_run (b := true) (tru_run (x := .bl true) (callK_run (xs := [.pen, .lst (ts.map rowT)]) (p1 := p1) (p2 := p1) (cons_run (p1 := p) rfl (cons_run (p1 := p1) (callK_run (xs := [.pen, .int 12]) rfl rfl ⟨rfl, rfl⟩ e1) rfl)) rfl ⟨rfl, rfl⟩ e2) rfl)) rfl
theorem turnsL_run : ∀ (l : List D) (b : Int) (p : Pn), PnB b p → b + 181 * (l.length : Int) ≤ 1000000 → ∀ a2 : Option Sl, ∃ b2 p', forGo (gN 2) body l (dsT a2 none) p = some (.nx (dsT b2 none), p')
  | [], _, p, _, _, a2 => ⟨a2, p, rfl⟩
  | d :: l, b, p, hp, hb, a2 => by
    rw [List.length_cons] at hb
    obtain ⟨p1, e1, q1⟩ := turnL_run hp (by omega) (some (.d d))
    obtain ⟨d2, p2, e2⟩ := turnsL_run l (b + 181) p1 q1 (by omega) (some (.d d))
    exact ⟨d2, p2, for_step rfl e1 e2⟩
def l6 : List D := [.int 0, .int 1, .int 2, .int 3, .int 4, .int 5]
def ab (i j : Int) : List Trp := [("a", "b", i), ("b", "a", j)]
def r12 : List Trp := ab 0 99 ++ ab 0 99 ++ ab 0 99 ++ ab 0 99 ++ ab 0 99 ++ ab 0 99
theorem ok_ab {i j : Int} (i0 : 0 ≤ i) (i1 : i ≤ 99) (j0 : 0 ≤ j) (j1 : j ≤ 99) : ∀ t ∈ ab i j, TOk t := by
  intro t ht
  unfold ab at ht
  simp only [List.mem_cons, List.not_mem_nil, or_false] at ht
  rcases ht with rfl | rfl
  · exact ⟨nm_all "a" (by decide +kernel), nm_all "b" (by decide +kernel), (show ("a" : Str) ≠ "b" by decide +kernel), i0, i1⟩
  · exact ⟨nm_all "b" (by decide +kernel), nm_all "a" (by decide +kernel), (show ("b" : Str) ≠ "a" by decide +kernel), j0, j1⟩
theorem bal_ab (i j : Int) : ((ab i j).map (·.1)).Perm ((ab i j).map (·.2.1)) := List.perm_append_comm (l₁ := [("a" : Str)]) (l₂ := [("b" : Str)])
theorem good_ab {i j : Int} (i0 : 0 ≤ i) (i1 : i ≤ 99) (j0 : 0 ≤ j) (j1 : j ≤ 99) : Good (ab i j) := by
  refine ⟨ok_ab i0 i1 j0 j1, (show 2 ≤ 2 by decide), (show 2 ≤ 12 by decide), ?_, bal_ab i j⟩
  exact (show (srtU ([("a" : Str), "b"] ++ [("b" : Str), "a"])).length ≤ 6 by decide +kernel)
theorem good12 : Good r12 := by
  have o := ok_ab (i := 0) (j := 99) (by decide) (by decide) (by decide) (by decide)
  have bb := bal_ab 0 99
  refine ⟨fun t ht => ?_, by decide, by decide, by decide +kernel, ?_⟩
  · unfold r12 at ht
    simp only [List.mem_append] at ht
    rcases ht with ((((ht | ht) | ht) | ht) | ht) | ht <;> exact o t ht
  · unfold r12
    simp only [List.map_append]
    exact ((((bb.append bb).append bb).append bb).append bb).append bb
def full : Str := Txt.join ", " [("a>b 0, b>a 99" : Str), "a>b 0, b>a 99", "a>b 0, b>a 99", "a>b 0, b>a 99", "a>b 0, b>a 99", "a>b 0, b>a 99"]
theorem full_eq : full = txt r12 := by decide +kernel
theorem mth_run {tbl : MTab} {n k c : Nat} {eo : EX} {a b : AX} {δ : DS} {fs xs ys : List D} {q : List D × List Src × (List D → M D)} {p p1 p2 p3 : Pn} {r : Option (Out D × Pn)} (h1 : eo δ p = some (.ok (.obj c fs), p1)) (hl : tbl.lookup c = some q) (h2 : a δ p1 = some (.ok xs, p2)) (h3 : b δ p2 = some (.ok ys, p3)) (h4 : xs.length = n ∧ ys.length = k) (h5 : q.2.2 (.obj c fs :: pick xs q.1 ys q.2.1) p3 = r) : mMth tbl n k eo a b δ p = r := by
  unfold mMth M.bnd
  rw [h1]
  dsimp only
  rw [hl]
  dsimp only
  rw [h2]
  dsimp only
  rw [h3]
  dsimp only
  rw [if_pos h4]
  exact h5
theorem plain (cells : List Int) (h : cells.length ≤ 63) : ∃ p, blaw (lawDs Nlaw.length) ⟨cells, 0, 0⟩ = some (.rt (.bl true), p) := by
  obtain ⟨b2, p, e⟩ := turnsL_run l6 0 ⟨cells, 0, 0⟩ ⟨Int.le_refl 0, Int.le_refl 0, h⟩ (by decide) none
  have g1 := good_ab (i := 10) (j := 9) (by decide) (by decide) (by decide) (by decide)
  have g2 := good_ab (i := 0) (j := 10) (by decide) (by decide) (by decide) (by decide)
  have t1 : ("a>b 10, b>a 9" : Str) = txt (ab 10 9) := by decide +kernel
  have t2 : ("a>b 0, b>a 10" : Str) = txt (ab 0 10) := by decide +kernel
  have rd : (mCM 10 mTour_read 1 0 [] [.p 0] (mCons (mC (.str "a>b 10, b>a 9")) mNil) mNil) (dsT b2 (some (.d (.str full)))) p = some (.ok (tourD (ab 10 9)), p) := by
    refine cm_run (xs := [.str "a>b 10, b>a 9"]) rfl rfl ⟨rfl, rfl⟩ ?_
    show mTour_read [.cls 10, .str "a>b 10, b>a 9"] p = _
    rw [t1]
    exact good_read g1 p
  have pr : mTour_priced [tourD (ab 10 9), .lst [.int 0, .int 10]] p = some (.ok (tourD (ab 0 10)), p) := by kernel_rfl
  refine ⟨p, seq_run (for_run (ds := l6) (by kernel_rfl) e) (seq_run (set_run (d := .str full) (p' := p) (by kernel_rfl)) (ret_run (andV_t (p1 := p) (bn (x := .str full) (y := .str full) (p1 := p) (p2 := p) (cb_run (xs := [tourD r12]) (p1 := p) (cons_run (p1 := p) (cm_run (xs := [.str full]) (p1 := p) (p2 := p) rfl rfl ⟨rfl, rfl⟩ ?r) rfl) ?s) rfl ?q) (bn (x := .str "a>b 0, b>a 10") (y := .str "a>b 0, b>a 10") (p1 := p) (p2 := p) (cb_run (xs := [tourD (ab 0 10)]) (p1 := p) (cons_run (p1 := p) ?m rfl) ?t) rfl (by kernel_rfl)))))⟩
  case r =>
    show mTour_read [.cls 10, .str full] p = _
    rw [full_eq]
    exact good_read good12 p
  case s =>
    have := str_own good12.ok (by decide) p
    rw [← full_eq] at this
    exact this
  case q =>
    rw [dEq_strs]; simp
  case m =>
    exact mth_run (c := 10) (fs := [.tup ((ab 10 9).map trD), .tup ((srtU (ysOf (ab 10 9))).map D.str)]) (q := ([], [.p 0], mTour_priced)) (xs := [.lst [.int 0, .int 10]]) (ys := []) (p1 := p) (p2 := p) (p3 := p) rd rfl (by kernel_rfl) rfl ⟨rfl, rfl⟩ pr
  case t =>
    have := str_own g2.ok (by decide) p
    rw [← t2] at this
    exact this
end Lw

namespace Lw
open PySem PySem.Spec PyProof.Rows L2 ME
/-! ### what the top has written -/
def chk (K : PySem.W.Frag) (cs : List Addr) (tb : List (Addr × Addr)) : Bool :=
  bltB K && (isfB K (sg K cs tb).ca isT && ((isT.os.all fun c => oclB K (cs.getD c 0)) && ((ex0.all fun c => PySem.W.excIn K (cs.getD c 0) [.type "ValueError", .type "Exception", .type "BaseException", .type "object"] "ValueError.__new__") && ((isT.xs.all fun c => noAt K (cs.getD c 0) (nmL.getD c [])) && (((clsN.zip cs).all fun q => PySem.W.nsIn K mainGlobals q.1 == some (some (.ref q.2))) && ((clsN.length == cs.length) && ((blts.all fun x => PySem.W.nsIn K mainGlobals x == some none) && (cnsB K cnL && (tbsB tb lamQ && ((conB K (sg K cs tb) 9 "MOST" (.i 99)) && ((putB K (sg K cs tb) 9 0 "start") && ((putB K (sg K cs tb) 9 1 "goal") && ((putB K (sg K cs tb) 9 2 "price") && (((PySem.W.makesIn K (cs.getD 9 0) && PySem.W.keepIn K (.ref (cs.getD 9 0)))) && ((fldO K (sg K cs tb) "start" [(9, 0)]) && ((fldO K (sg K cs tb) "goal" [(9, 1)]) && ((putB K (sg K cs tb) 10 0 "own_trips") && ((putB K (sg K cs tb) 10 1 "own_yards") && (((PySem.W.makesIn K (cs.getD 10 0) && PySem.W.keepIn K (.ref (cs.getD 10 0)))) && ((fldO K (sg K cs tb) "own_trips" [(10, 0)]) && ((fldO K (sg K cs tb) "price" [(9, 2)]) && ((nfB K (sg K cs tb) [9] [9]) && ((nfB K (sg K cs tb) [10, 9] [10, 9]) && ((neB K (sg K cs tb) [10, 9]) && ((bopB K (sg K cs tb) [10] [10, 9] "rshift") && ((exmB K (sg K cs tb).ca isT 0) && ((fldB K (sg K cs tb) "line" [(5, 0)]) && ((fldB K (sg K cs tb) "word" [(5, 1)]) && ((ccB K (cs.getD 9 0) "MOST" (.i 99)) && ((clsB K (cs.getD 10 0)) && ((clsB K (cs.getD 9 0)) && ((itB K (sg K cs tb) 10 0 "own_trips")))))))))))))))))))))))))))))))))
theorem tp_mk {K : PySem.W.Frag} {h : Heap} {mg : Str → Option Value} {cs : List Addr} {tb : List (Addr × Addr)} (X : K.In h) (G : h.Ns mainGlobals mg) (c : chk K cs tb = true) (xi2 : XinAt K (cs.getD 2 0) "BadName.__init__" (inClass (top 12) 0)) (xi3 : XinAt K (cs.getD 3 0) "BadTrip.__init__" (inClass (top 13) 0)) (xi4 : XinAt K (cs.getD 4 0) "BadTour.__init__" (inClass (top 14) 0)) (xi5 : XinAt K (cs.getD 5 0) "BadText.__init__" (inClass (top 15) 0)) (xi7 : XinAt K (cs.getD 7 0) "Unbalanced.__init__" (inClass (top 17) 0)) (xi8 : XinAt K (cs.getD 8 0) "TooMany.__init__" (inClass (top 18) 0)) (d_law_pen : DefW K mg "_law_pen" (top 35) []) (dis_name : DefW K mg "is_name" (top 7) []) (dis_integer : DefW K mg "is_integer" (top 5) []) (dis_between : DefW K mg "is_between" (top 6) []) (wTrip___init__ : MemW K (cs.getD 9 0) "__init__" "Trip.__init__" (inClass (top 23) 1) [.int 1]) (dyards_of : DefW K mg "yards_of" (top 28) []) (dneed_trips : DefW K mg "need_trips" (top 29) []) (dneed_balance : DefW K mg "need_balance" (top 30) []) (wTour___init__ : MemW K (cs.getD 10 0) "__init__" "Tour.__init__" (inClass (top 33) 0) []) (dends_told : DefW K mg "ends_told" (top 21) []) (dcount_in : DefW K mg "count_in" (top 8) [.non]) (dprice_told : DefW K mg "price_told" (top 22) []) (dprice_at : DefW K mg "price_at" (top 31) []) (dtrips_in : DefW K mg "trips_in" (top 32) []) (wTour_read : CmW K (cs.getD 10 0) "read" "Tour.read" (inClass (top 33) 1) []) (d_law_words : DefW K mg "_law_words" (top 39) []) (d_law_tour : DefW K mg "_law_tour" (top 41) []) (wTrip___str__ : MemW K (cs.getD 9 0) "__str__" "Trip.__str__" (inClass (top 23) 7) []) (wTour___str__ : MemW K (cs.getD 10 0) "__str__" "Tour.__str__" (inClass (top 33) 21) []) (wTrip___eq__ : MemW K (cs.getD 9 0) "__eq__" "Trip.__eq__" (inClass (top 23) 6) []) (wTour___eq__ : MemW K (cs.getD 10 0) "__eq__" "Tour.__eq__" (inClass (top 33) 20) []) (wTour___rshift__ : MemW K (cs.getD 10 0) "__rshift__" "Tour.__rshift__" (inClass (top 33) 19) []) (d_law_rows : DefW K mg "_law_rows" (top 42) []) (wTrip___invert__ : MemW K (cs.getD 9 0) "__invert__" "Trip.__invert__" (inClass (top 23) 5) []) (wTour___invert__ : MemW K (cs.getD 10 0) "__invert__" "Tour.__invert__" (inClass (top 33) 18) []) (d_law_draw : DefW K mg "_law_draw" (top 36) []) (d_law_pick : DefW K mg "_law_pick" (top 37) []) (d_law_plan : DefW K mg "_law_plan" (top 38) []) (d_law_heard : DefW K mg "_law_heard" (top 43) []) (d_law_right : DefC K mg "_law_right" (top 44) [] (tb.getD 0 (0, 0)).1) (wTour_priced : MemW K (cs.getD 10 0) "priced" "Tour.priced" (inClass (top 33) 8) []) (wTrip_priced : MemW K (cs.getD 9 0) "priced" "Trip.priced" (inClass (top 23) 3) []) (dlaw : DefW K mg "law" (top 45) []) (wTour___iter__ : MemW K (cs.getD 10 0) "__iter__" "Tour.__iter__" (inClass (top 33) 11) []) : Tp K mg cs tb := by
  unfold chk at c
  obtain ⟨c1, c⟩ := Bool.and_eq_true_iff.mp c
  obtain ⟨c2, c⟩ := Bool.and_eq_true_iff.mp c
  obtain ⟨co, c⟩ := Bool.and_eq_true_iff.mp c
  obtain ⟨c3, c⟩ := Bool.and_eq_true_iff.mp c
  obtain ⟨c4, c⟩ := Bool.and_eq_true_iff.mp c
  obtain ⟨c6, c⟩ := Bool.and_eq_true_iff.mp c
  obtain ⟨c7, c⟩ := Bool.and_eq_true_iff.mp c
  obtain ⟨c8, c⟩ := Bool.and_eq_true_iff.mp c
  obtain ⟨c9, c⟩ := Bool.and_eq_true_iff.mp c
  obtain ⟨ct, c⟩ := Bool.and_eq_true_iff.mp c
  obtain ⟨f0, c⟩ := Bool.and_eq_true_iff.mp c
  obtain ⟨f1, c⟩ := Bool.and_eq_true_iff.mp c
  obtain ⟨f2, c⟩ := Bool.and_eq_true_iff.mp c
  obtain ⟨f3, c⟩ := Bool.and_eq_true_iff.mp c
  obtain ⟨f4, c⟩ := Bool.and_eq_true_iff.mp c
  obtain ⟨f5, c⟩ := Bool.and_eq_true_iff.mp c
  obtain ⟨f6, c⟩ := Bool.and_eq_true_iff.mp c
  obtain ⟨f7, c⟩ := Bool.and_eq_true_iff.mp c
  obtain ⟨f8, c⟩ := Bool.and_eq_true_iff.mp c
  obtain ⟨f9, c⟩ := Bool.and_eq_true_iff.mp c
  obtain ⟨f10, c⟩ := Bool.and_eq_true_iff.mp c
  obtain ⟨f11, c⟩ := Bool.and_eq_true_iff.mp c
  obtain ⟨f12, c⟩ := Bool.and_eq_true_iff.mp c
  obtain ⟨f13, c⟩ := Bool.and_eq_true_iff.mp c
  obtain ⟨f14, c⟩ := Bool.and_eq_true_iff.mp c
  obtain ⟨f15, c⟩ := Bool.and_eq_true_iff.mp c
  obtain ⟨f16, c⟩ := Bool.and_eq_true_iff.mp c
  obtain ⟨f17, c⟩ := Bool.and_eq_true_iff.mp c
  obtain ⟨f18, c⟩ := Bool.and_eq_true_iff.mp c
  obtain ⟨f19, c⟩ := Bool.and_eq_true_iff.mp c
  obtain ⟨f20, c⟩ := Bool.and_eq_true_iff.mp c
  obtain ⟨f21, c⟩ := Bool.and_eq_true_iff.mp c
  have f22 := c
  have c4x : ∀ c, isT.xs.contains c = true → xcB K (cs.getD c 0) = true := by
    have q := c2
    unfold isfB at q
    exact all_in (Bool.and_eq_true_iff.mp q).2
  exact ⟨mgn_of X G c8, cm_of X G c6 (beq_iff_eq.mp c7), cns_of X G c9, c4x, all_in c3, all_in c4, isf_of c2 c1 (fun c hc => ocl_of (List.all_eq_true.mp co c hc) c1), ct, f0, f1, f2, f3, f4, f5, f6, f7, f8, f9, f10, f11, f12, f13, f14, f15, f16, f17, f18, f19, f20, f21, f22, xi2, xi3, xi4, xi5, xi7, xi8, d_law_pen, dis_name, dis_integer, dis_between, wTrip___init__, dyards_of, dneed_trips, dneed_balance, wTour___init__, dends_told, dcount_in, dprice_told, dprice_at, dtrips_in, wTour_read, d_law_words, d_law_tour, wTrip___str__, wTour___str__, wTrip___eq__, wTour___eq__, wTour___rshift__, d_law_rows, wTrip___invert__, wTour___invert__, d_law_draw, d_law_pick, d_law_plan, d_law_heard, d_law_right, wTour_priced, wTrip_priced, dlaw, wTour___iter__⟩
theorem law_at {l : PySem.W.OpenLaw} {w : World} {K : PySem.W.Frag} {h : Heap} {mg : Str → Option Value} {fa : Addr} {cs : List Addr} {tb : List (Addr × Addr)} (X : K.In h) (hfa : mg "law" = some (.ref fa)) (T : Tp K mg cs tb) (hd : hdsB K tb = true) (hT : ∀ p ∈ tb, h.get? p.2 = some objT) : LawAtG l w K 10 63 "_law_script" mg fa h := by
  obtain ⟨f, fd, F, hm, hk⟩ := T.dlaw
  have e := hfa.symm.trans hm
  cases e
  have hds := hds_of X hd
  refine ⟨fd, tb, spLaw (sg K cs tb) Nlaw.length blaw, hT, hds.1, hds.2, ?_, fun H a ns hl hH hS => ?_, fun base _ _ hS hTB => fn_law hS hTB T F⟩
  · have bd := bdW0 (ps := ["_law_script"]) (n := 1) (ks := []) (l := [.p 0]) F (fun s kV doc pm an cdv ct us ws h1 h2 => match us, ws, h1, h2 with | [_], [], _, _ => .of_eq (by kernel_rfl))
    obtain ⟨oc, od, dV, kV, doc, pm, an, cdv, ct, osl, rfl, _, _, h4⟩ := F
    have e : dV = .none := by
      unfold dflB at h4
      cases dV <;> first | rfl | (simp at h4; done)
    subst e
    exact fun s u => .of_eq (by kernel_rfl)
  · obtain ⟨p, hp⟩ := plain (ns.take 63) (by rw [List.length_take]; exact Nat.min_le_left _ _)
    exact ⟨a, ns, rfl, hS, tabs_start hH, p, hp, fun _ => rfl⟩
theorem all_mk {l : PySem.W.OpenLaw} {w : World} {K : PySem.W.Frag} {h : Heap} {mg : Str → Option Value} {fa : Addr} {C0 C1 C2 C3 C4 C5 C6 C7 C8 C9 C10 q0 P0 : Addr} {o0 : Value} {d0 : Option Addr} {v0 : Array Value} {s0 : Array (Option Value)} {ts : List Addr} (X : K.In h) (G : h.Ns mainGlobals mg) (hfa : mg "law" = some (.ref fa)) (hY : ∀ P ∈ ts, h.get? P = some (PySem.W.tabObj #[])) (a0 : PySem.W.nsIn K mainGlobals "PullError" = some (some (.ref C0))) (a1 : PySem.W.nsIn K mainGlobals "BadInput" = some (some (.ref C1))) (a2 : PySem.W.nsIn K mainGlobals "BadName" = some (some (.ref C2))) (a3 : PySem.W.nsIn K mainGlobals "BadTrip" = some (some (.ref C3))) (a4 : PySem.W.nsIn K mainGlobals "BadTour" = some (some (.ref C4))) (a5 : PySem.W.nsIn K mainGlobals "BadText" = some (some (.ref C5))) (a6 : PySem.W.nsIn K mainGlobals "Refused" = some (some (.ref C6))) (a7 : PySem.W.nsIn K mainGlobals "Unbalanced" = some (some (.ref C7))) (a8 : PySem.W.nsIn K mainGlobals "TooMany" = some (some (.ref C8))) (a9 : PySem.W.nsIn K mainGlobals "Trip" = some (some (.ref C9))) (a10 : PySem.W.nsIn K mainGlobals "Tour" = some (some (.ref C10))) (t0 : K.lookup q0 = some ⟨o0, d0, .fields v0, s0⟩) (u0 : v0[11]? = some (.ref P0)) (c : chk K [C0, C1, C2, C3, C4, C5, C6, C7, C8, C9, C10] [(q0, P0)] = true) (hd : hdsB K [(q0, P0)] = true) (hts : (([(q0, P0)] : List (Addr × Addr)).all fun p => ts.contains p.2) = true) (xi2 : XinAt K C2 "BadName.__init__" (inClass (top 12) 0)) (xi3 : XinAt K C3 "BadTrip.__init__" (inClass (top 13) 0)) (xi4 : XinAt K C4 "BadTour.__init__" (inClass (top 14) 0)) (xi5 : XinAt K C5 "BadText.__init__" (inClass (top 15) 0)) (xi7 : XinAt K C7 "Unbalanced.__init__" (inClass (top 17) 0)) (xi8 : XinAt K C8 "TooMany.__init__" (inClass (top 18) 0)) (d_law_pen : DefW K mg "_law_pen" (top 35) []) (dis_name : DefW K mg "is_name" (top 7) []) (dis_integer : DefW K mg "is_integer" (top 5) []) (dis_between : DefW K mg "is_between" (top 6) []) (wTrip___init__ : MemW K C9 "__init__" "Trip.__init__" (inClass (top 23) 1) [.int 1]) (dyards_of : DefW K mg "yards_of" (top 28) []) (dneed_trips : DefW K mg "need_trips" (top 29) []) (dneed_balance : DefW K mg "need_balance" (top 30) []) (wTour___init__ : MemW K C10 "__init__" "Tour.__init__" (inClass (top 33) 0) []) (dends_told : DefW K mg "ends_told" (top 21) []) (dcount_in : DefW K mg "count_in" (top 8) [.non]) (dprice_told : DefW K mg "price_told" (top 22) []) (dprice_at : DefW K mg "price_at" (top 31) []) (dtrips_in : DefW K mg "trips_in" (top 32) []) (wTour_read : CmW K C10 "read" "Tour.read" (inClass (top 33) 1) []) (d_law_words : DefW K mg "_law_words" (top 39) []) (d_law_tour : DefW K mg "_law_tour" (top 41) []) (wTrip___str__ : MemW K C9 "__str__" "Trip.__str__" (inClass (top 23) 7) []) (wTour___str__ : MemW K C10 "__str__" "Tour.__str__" (inClass (top 33) 21) []) (wTrip___eq__ : MemW K C9 "__eq__" "Trip.__eq__" (inClass (top 23) 6) []) (wTour___eq__ : MemW K C10 "__eq__" "Tour.__eq__" (inClass (top 33) 20) []) (wTour___rshift__ : MemW K C10 "__rshift__" "Tour.__rshift__" (inClass (top 33) 19) []) (d_law_rows : DefW K mg "_law_rows" (top 42) []) (wTrip___invert__ : MemW K C9 "__invert__" "Trip.__invert__" (inClass (top 23) 5) []) (wTour___invert__ : MemW K C10 "__invert__" "Tour.__invert__" (inClass (top 33) 18) []) (d_law_draw : DefW K mg "_law_draw" (top 36) []) (d_law_pick : DefW K mg "_law_pick" (top 37) []) (d_law_plan : DefW K mg "_law_plan" (top 38) []) (d_law_heard : DefW K mg "_law_heard" (top 43) []) (d_law_right : DefC K mg "_law_right" (top 44) [] q0) (wTour_priced : MemW K C10 "priced" "Tour.priced" (inClass (top 33) 8) []) (wTrip_priced : MemW K C9 "priced" "Trip.priced" (inClass (top 23) 3) []) (dlaw : DefW K mg "law" (top 45) []) (wTour___iter__ : MemW K C10 "__iter__" "Tour.__iter__" (inClass (top 33) 11) []) : LawAtG l w K 10 63 "_law_script" mg fa h :=
  law_at (cs := [C0, C1, C2, C3, C4, C5, C6, C7, C8, C9, C10]) (tb := [(q0, P0)]) X hfa (tp_mk X G c xi2 xi3 xi4 xi5 xi7 xi8 d_law_pen dis_name dis_integer dis_between wTrip___init__ dyards_of dneed_trips dneed_balance wTour___init__ dends_told dcount_in dprice_told dprice_at dtrips_in wTour_read d_law_words d_law_tour wTrip___str__ wTour___str__ wTrip___eq__ wTour___eq__ wTour___rshift__ d_law_rows wTrip___invert__ wTour___invert__ d_law_draw d_law_pick d_law_plan d_law_heard d_law_right wTour_priced wTrip_priced dlaw wTour___iter__) hd (tbs_in hY hts)
end Lw
open PySem PySem.W PyProof.Rows
set_option maxRecDepth 100000 in
set_option maxHeartbeats 0 in
theorem PySem.Challenge.cw_emptypulls_k17_texts_of_tours_holds : PySem.Challenge.rw_emptypulls_k17_texts_of_tours.Holds := by
  w_on; o_law; k_head; (case hw => w_witness2)
  k_fill
  refine ME.walk_ofG (l := PySem.Challenge.rw_emptypulls_k17_texts_of_tours) (n := 63) (k := 10) (x := "_law_script") rfl (by decide) rfl ⟨rfl, by decide, by decide⟩ (by kernel_rfl) (fun w h Y => PySem.W.km_in_of Y) ?F
  case F =>
    intro w mg fa h Y KX G hmg
    refine' Lw.all_mk KX G hmg (PySem.W.km_tabs_of Y) ?a0 ?a1 ?a2 ?a3 ?a4 ?a5 ?a6 ?a7 ?a8 ?a9 ?a10 ?t0 ?u0 ?chk ?hd ?hts ?xi2 ?xi3 ?xi4 ?xi5 ?xi7 ?xi8 ?d_law_pen ?dis_name ?dis_integer ?dis_between ?wTrip___init__ ?dyards_of ?dneed_trips ?dneed_balance ?wTour___init__ ?dends_told ?dcount_in ?dprice_told ?dprice_at ?dtrips_in ?wTour_read ?d_law_words ?d_law_tour ?wTrip___str__ ?wTour___str__ ?wTrip___eq__ ?wTour___eq__ ?wTour___rshift__ ?d_law_rows ?wTrip___invert__ ?wTour___invert__ ?d_law_draw ?d_law_pick ?d_law_plan ?d_law_heard ?d_law_right ?wTour_priced ?wTrip_priced ?dlaw ?wTour___iter__
    (case a0 => k_is)
    (case a1 => k_is)
    (case a2 => k_is)
    (case a3 => k_is)
    (case a4 => k_is)
    (case a5 => k_is)
    (case a6 => k_is)
    (case a7 => k_is)
    (case a8 => k_is)
    (case a9 => k_is)
    (case a10 => k_is)
    (case d_law_right => (refine' ME.defC_mk KX G ?a ?l ?c ?k ?d; (case a => k_is); (case l => k_is); (case c => k_is); (case k => k_is); (case d => kernel_rfl)))
    (case t0 => k_is)
    (case u0 => rfl)
    (case chk => kernel_rfl)
    (case hd => kernel_rfl)
    (case hts => kernel_rfl)
    (case xi2 => (refine' ME.xinAt_mk ?a ?l ?c ?k; (case a => k_is); (case l => k_is); (case c => k_is); (case k => k_is)))
    (case xi3 => (refine' ME.xinAt_mk ?a ?l ?c ?k; (case a => k_is); (case l => k_is); (case c => k_is); (case k => k_is)))
    (case xi4 => (refine' ME.xinAt_mk ?a ?l ?c ?k; (case a => k_is); (case l => k_is); (case c => k_is); (case k => k_is)))
    (case xi5 => (refine' ME.xinAt_mk ?a ?l ?c ?k; (case a => k_is); (case l => k_is); (case c => k_is); (case k => k_is)))
    (case xi7 => (refine' ME.xinAt_mk ?a ?l ?c ?k; (case a => k_is); (case l => k_is); (case c => k_is); (case k => k_is)))
    (case xi8 => (refine' ME.xinAt_mk ?a ?l ?c ?k; (case a => k_is); (case l => k_is); (case c => k_is); (case k => k_is)))
    (case d_law_pen => (refine' ME.defW_mk KX G ?a ?l ?c ?k ?d; (case a => k_is); (case l => k_is); (case c => k_is); (case k => k_is); (case d => kernel_rfl)))
    (case dis_name => (refine' ME.defW_mk KX G ?a ?l ?c ?k ?d; (case a => k_is); (case l => k_is); (case c => k_is); (case k => k_is); (case d => kernel_rfl)))
    (case dis_integer => (refine' ME.defW_mk KX G ?a ?l ?c ?k ?d; (case a => k_is); (case l => k_is); (case c => k_is); (case k => k_is); (case d => kernel_rfl)))
    (case dis_between => (refine' ME.defW_mk KX G ?a ?l ?c ?k ?d; (case a => k_is); (case l => k_is); (case c => k_is); (case k => k_is); (case d => kernel_rfl)))
    (case wTrip___init__ => (refine' ME.memW_mk ?a ?l ?c ?k; (case a => k_is); (case l => k_is); (case c => k_is); (case k => kernel_rfl)))
    (case dyards_of => (refine' ME.defW_mk KX G ?a ?l ?c ?k ?d; (case a => k_is); (case l => k_is); (case c => k_is); (case k => k_is); (case d => kernel_rfl)))
    (case dneed_trips => (refine' ME.defW_mk KX G ?a ?l ?c ?k ?d; (case a => k_is); (case l => k_is); (case c => k_is); (case k => k_is); (case d => kernel_rfl)))
    (case dneed_balance => (refine' ME.defW_mk KX G ?a ?l ?c ?k ?d; (case a => k_is); (case l => k_is); (case c => k_is); (case k => k_is); (case d => kernel_rfl)))
    (case wTour___init__ => (refine' ME.memW_mk ?a ?l ?c ?k; (case a => k_is); (case l => k_is); (case c => k_is); (case k => kernel_rfl)))
    (case dends_told => (refine' ME.defW_mk KX G ?a ?l ?c ?k ?d; (case a => k_is); (case l => k_is); (case c => k_is); (case k => k_is); (case d => kernel_rfl)))
    (case dcount_in => (refine' ME.defW_mk KX G ?a ?l ?c ?k ?d; (case a => k_is); (case l => k_is); (case c => k_is); (case k => k_is); (case d => kernel_rfl)))
    (case dprice_told => (refine' ME.defW_mk KX G ?a ?l ?c ?k ?d; (case a => k_is); (case l => k_is); (case c => k_is); (case k => k_is); (case d => kernel_rfl)))
    (case dprice_at => (refine' ME.defW_mk KX G ?a ?l ?c ?k ?d; (case a => k_is); (case l => k_is); (case c => k_is); (case k => k_is); (case d => kernel_rfl)))
    (case dtrips_in => (refine' ME.defW_mk KX G ?a ?l ?c ?k ?d; (case a => k_is); (case l => k_is); (case c => k_is); (case k => k_is); (case d => kernel_rfl)))
    (case wTour_read => (refine' ME.cmW_mk ?a ?r ?l ?c ?k; (case a => k_is); (case r => k_is); (case l => k_is); (case c => k_is); (case k => kernel_rfl)))
    (case d_law_words => (refine' ME.defW_mk KX G ?a ?l ?c ?k ?d; (case a => k_is); (case l => k_is); (case c => k_is); (case k => k_is); (case d => kernel_rfl)))
    (case d_law_tour => (refine' ME.defW_mk KX G ?a ?l ?c ?k ?d; (case a => k_is); (case l => k_is); (case c => k_is); (case k => k_is); (case d => kernel_rfl)))
    (case wTrip___str__ => (refine' ME.memW_mk ?a ?l ?c ?k; (case a => k_is); (case l => k_is); (case c => k_is); (case k => kernel_rfl)))
    (case wTour___str__ => (refine' ME.memW_mk ?a ?l ?c ?k; (case a => k_is); (case l => k_is); (case c => k_is); (case k => kernel_rfl)))
    (case wTrip___eq__ => (refine' ME.memW_mk ?a ?l ?c ?k; (case a => k_is); (case l => k_is); (case c => k_is); (case k => kernel_rfl)))
    (case wTour___eq__ => (refine' ME.memW_mk ?a ?l ?c ?k; (case a => k_is); (case l => k_is); (case c => k_is); (case k => kernel_rfl)))
    (case wTour___rshift__ => (refine' ME.memW_mk ?a ?l ?c ?k; (case a => k_is); (case l => k_is); (case c => k_is); (case k => kernel_rfl)))
    (case d_law_rows => (refine' ME.defW_mk KX G ?a ?l ?c ?k ?d; (case a => k_is); (case l => k_is); (case c => k_is); (case k => k_is); (case d => kernel_rfl)))
    (case wTrip___invert__ => (refine' ME.memW_mk ?a ?l ?c ?k; (case a => k_is); (case l => k_is); (case c => k_is); (case k => kernel_rfl)))
    (case wTour___invert__ => (refine' ME.memW_mk ?a ?l ?c ?k; (case a => k_is); (case l => k_is); (case c => k_is); (case k => kernel_rfl)))
    (case d_law_draw => (refine' ME.defW_mk KX G ?a ?l ?c ?k ?d; (case a => k_is); (case l => k_is); (case c => k_is); (case k => k_is); (case d => kernel_rfl)))
    (case d_law_pick => (refine' ME.defW_mk KX G ?a ?l ?c ?k ?d; (case a => k_is); (case l => k_is); (case c => k_is); (case k => k_is); (case d => kernel_rfl)))
    (case d_law_plan => (refine' ME.defW_mk KX G ?a ?l ?c ?k ?d; (case a => k_is); (case l => k_is); (case c => k_is); (case k => k_is); (case d => kernel_rfl)))
    (case d_law_heard => (refine' ME.defW_mk KX G ?a ?l ?c ?k ?d; (case a => k_is); (case l => k_is); (case c => k_is); (case k => k_is); (case d => kernel_rfl)))
    (case wTour_priced => (refine' ME.memW_mk ?a ?l ?c ?k; (case a => k_is); (case l => k_is); (case c => k_is); (case k => kernel_rfl)))
    (case wTrip_priced => (refine' ME.memW_mk ?a ?l ?c ?k; (case a => k_is); (case l => k_is); (case c => k_is); (case k => kernel_rfl)))
    (case dlaw => (refine' ME.defW_mk KX G ?a ?l ?c ?k ?d; (case a => k_is); (case l => k_is); (case c => k_is); (case k => k_is); (case d => kernel_rfl)))
    (case wTour___iter__ => (refine' ME.memW_mk ?a ?l ?c ?k; (case a => k_is); (case l => k_is); (case c => k_is); (case k => kernel_rfl)))

